import PyProof.Rows.All
import HandS.ForMost
import HandS.ForExc
import HandS.Walk
import HandS.Wide
import HandS.IsInst
import HandS.Defaults
import HandS.Rev
import HandS.Zip
import HandS.TupAny
import HandS.Style
import HandS.Flow
import HandS.Deep
import HandS.TryOnly
import HandS.WordsExc
import HandS.MakeKwOnly
import HandS.WideBits
import HandS.HeadHook2
import HandS.HeadEnd
import HandS.Head0
import HandS.Head1
import HandS.Head2
import HandS.ExcIs
import PyProof.CollectIter
import PyProof.WalksMore
import HandS.RevTup
import KE.KUnpack
import KE.GoesEnum
import KE.GoesMore
import HandS.Dict
import HandS.List
import HandS.HeadHook3
import KE.KExcInit
import HandS.ExcInit
import HandS.ExcField
import KE.KExcIs
import PySem.Challenge.RW_bendlands_k11_spokes_refused
import HandS.Zip0
import KE.GoesZip
import KE.GoesEnumKw
set_option Elab.async false
set_option linter.all false
set_option maxRecDepth 100000
set_option maxHeartbeats 4000000
/-! Data without addresses: tuples by their items, lists that are grown by their address; each construct of the text as a transformer over them. -/
namespace Bl
open PySem PySem.Spec PyProof.Rows L2

inductive D where
  | non | bl (b : Bool) | int (i : Int) | str (x : Str)
  | tup (ds : List D) | lst (ds : List D)
  | ref (a : Addr) | obj (a : Addr)
  /-- an instance or a dict that is written: by its address; an instance that is written no more: its class, its fields -/
  | own (a : Addr) | ins (C : Addr) (ns : List Str) (ds : List D)

abbrev Sto := Addr → Option (List D)
def sup (S : Sto) (a : Addr) (ds : List D) : Sto := fun b => if b = a then some ds else S b
def sdel (S : Sto) (a : Addr) : Sto := fun b => if b = a then none else S b
theorem sup_same {S : Sto} {a : Addr} {ds : List D} : sup S a ds a = some ds := if_pos rfl
theorem sup_ne {S : Sto} {a b : Addr} {ds : List D} (h : b ≠ a) : sup S a ds b = S b := if_neg h
theorem sdel_same {S : Sto} {a : Addr} : sdel S a a = none := if_pos rfl
theorem sdel_ne {S : Sto} {a b : Addr} (h : b ≠ a) : sdel S a b = S b := if_neg h

/-- the written part, and the lists that are being made out of sight -/
structure Kz where
  K : PySem.W.Frag
  Z : Addr → Prop
/-- a list of the written part -/
def KL (K : PySem.W.Frag) (a : Addr) (xs : List V) : Prop :=
  ∃ (o : Obj) (its : Array Value) (n : Nat), K.lookup a = some o ∧ o.cls = .type "list" ∧ o.dict = none ∧ o.data = .seq its n ∧ its.size ≤ sizeLine ∧ Vals xs its.toList

def kd : HO → Nat
  | .lst _ => 0
  | .ins .. => 1
  | .dK _ => 2
  | .xd _ => 3
  | _ => 4
theorem kd0 {o : HO} (h : kd o = 0) : ∃ xs, o = .lst xs := by cases o <;> first | exact ⟨_, rfl⟩ | cases h
def IsL (H : Hp) (a : Addr) : Prop := ∃ xs, H a = some (.lst xs)
def IsO (H : Hp) (a : Addr) : Prop := ∃ o, H a = some o ∧ (kd o = 1 ∨ kd o = 2)
mutual
inductive Rp (K : Kz) (S : Sto) (H : Hp) : D → V → Prop
  | non : Rp K S H .non .non
  | bl (b : Bool) : Rp K S H (.bl b) (.bl b)
  | int (i : Int) : Rp K S H (.int i) (.int i)
  | str (x : Str) : Rp K S H (.str x) (.str x)
  | tup {a : Addr} {vs : List V} {ds : List D} : SqT K.K H a vs → RpL K S H ds vs → Rp K S H (.tup ds) (.ref a)
  | lst {a : Addr} {vs : List V} {ds : List D} : Rd H a (.lst vs) → S a = none → ¬ K.Z a → RpL K S H ds vs → Rp K S H (.lst ds) (.ref a)
  | lstK {a : Addr} {vs : List V} {ds : List D} : KL K.K a vs → RpL K S H ds vs → Rp K S H (.lst ds) (.ref a)
  | ref (a : Addr) : IsL H a → Rp K S H (.ref a) (.ref a)
  | obj (a : Addr) : Rp K S H (.obj a) (.ref a)
  | own (a : Addr) : IsO H a → Rp K S H (.own a) (.ref a)
  | ins {a C dx : Addr} {fs : List (Str × V)} {ns : List Str} {ds : List D} : H a = some (.ins C dx fs) → S a = none → fs.map (·.1) = ns → RpL K S H ds (fs.map (·.2)) → Rp K S H (.ins C ns ds) (.ref a)
inductive RpL (K : Kz) (S : Sto) (H : Hp) : List D → List V → Prop
  | nil : RpL K S H [] []
  | cons {d : D} {v : V} {ds : List D} {vs : List V} : Rp K S H d v → RpL K S H ds vs → RpL K S H (d :: ds) (v :: vs)
end

/-- no value is told so: ahead of an exception's fields in the store -/
def xTag : D := .ins 0 [Str.empty] []
/-- the lists that are grown stand in the heap -/
def RpO (K : Kz) (S : Sto) (H : Hp) (ds : List D) : HO → Prop
  | .lst vs => RpL K S H ds vs
  | .ins C _ fs => ∃ vs, ds = .obj C :: .tup ((fs.map (·.1)).map D.str) :: vs ∧ RpL K S H vs (fs.map (·.2))
  | .xd fs => ∃ vs, ds = xTag :: .tup ((fs.map (·.1)).map D.str) :: vs ∧ RpL K S H vs (fs.map (·.2))
  | .dK kvs => ∃ (ks : List Int) (vs : List D), ds = .tup (ks.map D.int) :: vs ∧ kvs.map (·.1) = ks.map Sum.inl ∧ RpL K S H vs (kvs.map (·.2))
  | _ => False
theorem RpO.map {K K' : Kz} {S S' : Sto} {H H' : Hp} {ds : List D} {o : HO} (f : ∀ ds vs, RpL K S H ds vs → RpL K' S' H' ds vs) (h : RpO K S H ds o) : RpO K' S' H' ds o := by
  cases o <;> first | exact f _ _ h | exact h.elim | skip
  · obtain ⟨ks, vs, e1, e2, r⟩ := h
    exact ⟨ks, vs, e1, e2, f _ _ r⟩
  · obtain ⟨vs, e1, r⟩ := h
    exact ⟨vs, e1, f _ _ r⟩
  · obtain ⟨vs, e1, r⟩ := h
    exact ⟨vs, e1, f _ _ r⟩
theorem RpO.kd {K : Kz} {S : Sto} {H : Hp} {ds : List D} {o : HO} (h : RpO K S H ds o) : kd o ≤ 3 := by
  cases o <;> first | exact h.elim | exact (by decide : (0 : Nat) ≤ 3) | exact (by decide : (1 : Nat) ≤ 3) | exact (by decide : (2 : Nat) ≤ 3) | exact (by decide : (3 : Nat) ≤ 3)
structure RS (K : Kz) (S : Sto) (H : Hp) : Prop where
  at_ : ∀ a ds, S a = some ds → ∃ o, H a = some o ∧ RpO K S H ds o
  hid : ∀ b, K.Z b → S b = none ∧ ∃ vs, H b = some (.lst vs)
/-- what else stands, stands on -/
def Kept (H H' : Hp) : Prop := ∀ b o, H b = some o → ∃ o', H' b = some o' ∧ kd o' = kd o
theorem Kept.refl (H : Hp) : Kept H H := fun _ o h => ⟨o, h, rfl⟩
theorem Kept.trans {H H1 H2 : Hp} (a : Kept H H1) (b : Kept H1 H2) : Kept H H2 := fun c o h => by
  obtain ⟨o1, h1, k1⟩ := a c o h
  obtain ⟨o2, h2, k2⟩ := b c o1 h1
  exact ⟨o2, h2, k2.trans k1⟩
theorem Kept.put {H : Hp} {p : Addr} {xs ys : List V} (h : H p = some (.lst xs)) : Kept H (L2.upd H p (.lst ys)) := fun b u e => by
  by_cases hb : b = p
  · subst hb
    rw [h] at e
    cases e
    exact ⟨_, upd_same, rfl⟩
  · exact ⟨u, by rw [upd_ne hb]; exact e, rfl⟩
theorem Kept.upd {H : Hp} {p : Addr} {o : HO} (h : ∀ o', H p = some o' → kd o = kd o') : Kept H (upd H p o) := fun b u e => by
  by_cases hb : b = p
  · subst hb
    exact ⟨o, upd_same, h u e⟩
  · exact ⟨u, by rw [upd_ne hb]; exact e, rfl⟩
theorem Kept.new {H : Hp} {p : Addr} {o : HO} (h : H p = none) : Kept H (L2.upd H p o) := .upd fun o' e => by rw [h] at e; cases e
structure Step (S : Sto) (H : Hp) (S' : Sto) (H' : Hp) : Prop where
  ap : ∀ b o, H b = some o → S b = none → S' b = none ∧ H' b = some o
  kp : Kept H H'
theorem Step.refl (S : Sto) (H : Hp) : Step S H S H := ⟨fun _ _ h n => ⟨n, h⟩, .refl H⟩
theorem Step.trans {S S1 S2 : Sto} {H H1 H2 : Hp} (a : Step S H S1 H1) (b : Step S1 H1 S2 H2) : Step S H S2 H2 := ⟨fun c o h n => by
  obtain ⟨n1, h1⟩ := a.ap c o h n
  exact b.ap c o h1 n1, fun c o h => by
  obtain ⟨o1, h1, k1⟩ := a.kp c o h
  obtain ⟨o2, h2, k2⟩ := b.kp c o1 h1
  exact ⟨o2, h2, k2.trans k1⟩⟩
theorem Kept.isL {H H' : Hp} {a : Addr} (k : Kept H H') (h : IsL H a) : IsL H' a := by
  obtain ⟨xs, e⟩ := h
  obtain ⟨o, e1, e2⟩ := k a _ e
  obtain ⟨ys, rfl⟩ := kd0 e2
  exact ⟨ys, e1⟩
theorem Kept.isO {H H' : Hp} {a : Addr} (k : Kept H H') (h : IsO H a) : IsO H' a := by
  obtain ⟨o, e, ho⟩ := h
  obtain ⟨o', e1, e2⟩ := k a _ e
  exact ⟨o', e1, by rw [e2]; exact ho⟩

theorem RS.atL {K : Kz} {S : Sto} {H : Hp} (rs : RS K S H) (a : Addr) (ds : List D) (e : S a = some ds) (h : IsL H a := by assumption) : ∃ vs, H a = some (.lst vs) ∧ RpL K S H ds vs := by
  obtain ⟨o, q, r⟩ := rs.at_ a ds e
  obtain ⟨xs, q2⟩ := h
  rw [q] at q2
  cases q2
  exact ⟨xs, q, r⟩
theorem RS.off {K : Kz} {S : Sto} {H : Hp} {a : Addr} {o : HO} (rs : RS K S H) (h : H a = some o) (hn : 3 < kd o) : S a = none := by
  cases e : S a with
  | none => rfl
  | some ds =>
    obtain ⟨o', q, r⟩ := rs.at_ a ds e
    rw [h] at q
    cases q
    have := r.kd
    omega
theorem RS.free {K : Kz} {S : Sto} {H : Hp} {a : Addr} (rs : RS K S H) (h : H a = none) : S a = none := by
  cases e : S a with
  | none => rfl
  | some ds =>
    obtain ⟨o, q, _⟩ := rs.at_ a ds e
    rw [h] at q
    cases q
theorem Step.rdT {K : Kz} {S S' : Sto} {H H' : Hp} {a : Addr} {xs : List V} (st : Step S H S' H') (rs : RS K S H) (h : Rd H a (.tup xs)) : Rd H' a (.tup xs) := by
  rcases h with h | ⟨o, h⟩
  · exact .inl (st.ap a _ h (rs.off h (show (3 : Nat) < 4 by decide))).2
  · exact .inr ⟨o, (st.ap a _ h (rs.off h (show (3 : Nat) < 4 by decide))).2⟩
theorem Step.sqT {K : Kz} {S S' : Sto} {H H' : Hp} {a : Addr} {xs : List V} (st : Step S H S' H') (rs : RS K S H) (h : SqT K.K H a xs) : SqT K.K H' a xs := by
  rcases h with h | h
  · exact .inl (st.rdT rs h)
  · exact .inr h
theorem Step.rdL {S S' : Sto} {H H' : Hp} {a : Addr} {xs : List V} (st : Step S H S' H') (h : Rd H a (.lst xs)) (n : S a = none) : Rd H' a (.lst xs) ∧ S' a = none := by
  rcases h with h | ⟨o, h⟩
  · obtain ⟨n1, h1⟩ := st.ap a _ h n
    exact ⟨.inl h1, n1⟩
  · obtain ⟨n1, h1⟩ := st.ap a _ h n
    exact ⟨.inr ⟨o, h1⟩, n1⟩
section
variable {K : Kz} {S S' : Sto} {H H' : Hp}
mutual
theorem Rp.step (st : Step S H S' H') (rs : RS K S H) : ∀ (d : D) (v : V), Rp K S H d v → Rp K S' H' d v
  | .non, _, h => by cases h; exact .non
  | .bl b, _, h => by cases h; exact .bl b
  | .int i, _, h => by cases h; exact .int i
  | .str x, _, h => by cases h; exact .str x
  | .tup ds, _, h => by
    cases h with
    | tup hs ha => exact .tup (st.sqT rs hs) (RpL.step st rs ds _ ha)
  | .lst ds, _, h => by
    cases h with
    | lst hs hn hz ha => exact .lst (st.rdL hs hn).1 (st.rdL hs hn).2 hz (RpL.step st rs ds _ ha)
    | lstK hs ha => exact .lstK hs (RpL.step st rs ds _ ha)
  | .ref a, _, h => by cases h with | ref _ l => exact .ref a (st.kp.isL l)
  | .obj a, _, h => by cases h; exact .obj a
  | .own a, _, h => by cases h with | own _ l => exact .own a (st.kp.isO l)
  | .ins C ns ds, _, h => by
    cases h with
    | ins h1 h2 h3 h4 => exact .ins (st.ap _ _ h1 h2).2 (st.ap _ _ h1 h2).1 h3 (RpL.step st rs ds _ h4)
theorem RpL.step (st : Step S H S' H') (rs : RS K S H) : ∀ (ds : List D) (vs : List V), RpL K S H ds vs → RpL K S' H' ds vs
  | [], _, h => by cases h; exact .nil
  | d :: ds, _, h => by
    cases h with
    | cons h1 h2 => exact .cons (Rp.step st rs d _ h1) (RpL.step st rs ds _ h2)
end
theorem RpL.length : ∀ {ds : List D} {vs : List V}, RpL K S H ds vs → ds.length = vs.length
  | [], _, h => by cases h; rfl
  | _ :: _, _, h => by
    cases h with
    | cons _ h2 => exact congrArg Nat.succ (RpL.length h2)
theorem RpL.get : ∀ {ds : List D} {vs : List V} {i : Nat} {d : D}, RpL K S H ds vs → ds[i]? = some d → ∃ v, vs[i]? = some v ∧ Rp K S H d v
  | [], _, i, d, _, e => by simp at e
  | d0 :: ds, _, i, d, h, e => by
    cases h with
    | cons h1 h2 =>
      cases i with
      | zero => simp at e; subst e; exact ⟨_, rfl, h1⟩
      | succ i =>
        obtain ⟨v, e1, e2⟩ := RpL.get (i := i) (d := d) h2 (by simpa using e)
        exact ⟨v, by simpa using e1, e2⟩
theorem RpL.get' : ∀ {ds : List D} {vs : List V} {i : Nat} {v : V}, RpL K S H ds vs → vs[i]? = some v → ∃ d, ds[i]? = some d ∧ Rp K S H d v
  | [], _, i, d, h, e => by cases h; simp at e
  | d0 :: ds, _, i, v, h, e => by
    cases h with
    | cons h1 h2 =>
      cases i with
      | zero => simp at e; subst e; exact ⟨_, rfl, h1⟩
      | succ i =>
        obtain ⟨d, e1, e2⟩ := RpL.get' (i := i) (v := v) h2 (by simpa using e)
        exact ⟨d, by simpa using e1, e2⟩
theorem RpL.append : ∀ {ds es : List D} {vs ws : List V}, RpL K S H ds vs → RpL K S H es ws → RpL K S H (ds ++ es) (vs ++ ws)
  | [], _, _, _, h, h2 => by cases h; exact h2
  | _ :: _, _, _, _, h, h2 => by
    cases h with
    | cons p q => exact .cons p (RpL.append q h2)
theorem RpL.take : ∀ {ds : List D} {vs : List V} (n : Nat), RpL K S H ds vs → RpL K S H (ds.take n) (vs.take n)
  | _, _, 0, _ => by simp; exact .nil
  | [], _, n + 1, h => by cases h; exact .nil
  | d :: ds, _, n + 1, h => by
    cases h with
    | cons p q => exact .cons p (RpL.take n q)
theorem RpL.drop : ∀ {ds : List D} {vs : List V} (n : Nat), RpL K S H ds vs → RpL K S H (ds.drop n) (vs.drop n)
  | _, _, 0, h => h
  | [], _, n + 1, h => by cases h; exact .nil
  | d :: ds, _, n + 1, h => by
    cases h with
    | cons p q => exact RpL.drop n q
theorem RpL.set : ∀ {ds : List D} {vs : List V} {d : D} {v : V} (i : Nat), RpL K S H ds vs → Rp K S H d v → RpL K S H (ds.set i d) (vs.set i v)
  | [], _, d, v, i, h, h1 => by cases h; exact .nil
  | _ :: _, _, d, v, i, h, h1 => by
    cases h with
    | cons p q =>
      cases i with
      | zero => exact .cons h1 q
      | succ i => exact .cons p (RpL.set i q h1)
theorem RpL.ints {ns : List Int} : RpL K S H (ns.map D.int) (ns.map V.int) := by
  induction ns with
  | nil => exact .nil
  | cons n r ih => exact .cons (.int n) ih
end

/-! ### the slots -/
abbrev Ev := List (Option D)
structure RE (K : Kz) (S : Sto) (H : Hp) (env : Ev) (σ : L2.St) : Prop where
  len : env.length = σ.length
  at_ : ∀ (i : Nat) (d : D), env[i]? = some (some d) → ∃ v, σ[i]? = some (some v) ∧ Rp K S H d v
section
variable {K : Kz} {S S' : Sto} {H H' : Hp} {env : Ev} {σ : L2.St}
theorem RE.step (st : Step S H S' H') (rs : RS K S H) (re : RE K S H env σ) : RE K S' H' env σ :=
  ⟨re.len, fun i d e => by
    obtain ⟨v, e1, r⟩ := re.at_ i d e
    exact ⟨v, e1, Rp.step st rs d v r⟩⟩
theorem RE.set (re : RE K S H env σ) {d : D} {v : V} (r : Rp K S H d v) (i : Nat) : RE K S H (env.set i (some d)) (σ.set i (some v)) := by
  refine ⟨by rw [List.length_set, List.length_set]; exact re.len, fun j e h => ?_⟩
  by_cases hj : i = j
  · subst hj
    by_cases hl : i < env.length
    · rw [List.getElem?_set_self hl] at h
      cases h
      exact ⟨v, List.getElem?_set_self (by rw [← re.len]; exact hl), r⟩
    · rw [List.getElem?_eq_none (by rw [List.length_set]; omega)] at h
      cases h
  · rw [List.getElem?_set_ne hj] at h
    rw [List.getElem?_set_ne hj]
    exact re.at_ j e h
theorem RE.unset (re : RE K S H env σ) (i : Nat) : RE K S H (env.set i none) (σ.set i none) := by
  refine ⟨by rw [List.length_set, List.length_set]; exact re.len, fun j e h => ?_⟩
  by_cases hj : i = j
  · subst hj
    by_cases hl : i < env.length
    · rw [List.getElem?_set_self hl] at h
      cases h
    · rw [List.getElem?_eq_none (by rw [List.length_set]; omega)] at h
      cases h
  · rw [List.getElem?_set_ne hj] at h
    rw [List.getElem?_set_ne hj]
    exact re.at_ j e h
theorem RE.start {ds : List D} {vs : List V} (r : RpL K S H ds vs) (n : Nat) : RE K S H (ds.map some ++ List.replicate n none) (vs.map some ++ List.replicate n none) := by
  refine ⟨by simp [r.length], fun i d h => ?_⟩
  by_cases hi : i < ds.length
  · rw [List.getElem?_append_left (by simpa using hi), List.getElem?_map] at h
    cases e : ds[i]? with
    | none => rw [e] at h; cases h
    | some x =>
      rw [e] at h
      cases h
      obtain ⟨v, e1, r1⟩ := r.get e
      have hv : i < vs.length := by rw [← r.length]; exact hi
      exact ⟨v, by rw [List.getElem?_append_left (by simpa using hv), List.getElem?_map, e1]; rfl, r1⟩
  · rw [List.getElem?_append_right (by simpa using hi), List.getElem?_replicate] at h
    split at h <;> cases h
end

/-! ### an exception -/
structure Xc where
  nm : Str
  fs : List (Str × D)
/-- an exception's fields in the store -/
def xdC (fs : List (Str × D)) : List D := xTag :: .tup ((fs.map (·.1)).map D.str) :: fs.map (·.2)
def RX (K : Kz) (S : Sto) (H : Hp) (x : Xc) (c : Value) (dx : Option Addr) : Prop :=
  (∃ C, PySem.W.nsIn K.K mainGlobals x.nm = some (some (.ref C)) ∧ c = .ref C) ∧ match dx with
    | none => x.fs = []
    | some a => x.fs ≠ [] ∧ S a = some (xdC x.fs)

/-! ### transformers -/
abbrev DK := D → Sto → Prop
abbrev EK := Xc → Sto → Prop
abbrev TX (α : Type) := Ev → Sto → (α → Sto → Prop) → EK → Prop
abbrev TEd := TX D
abbrev TTd := TX Bool
abbrev TAd := TX (List D)
structure Nd where
  nx : Ev → Sto → Prop
  rt : DK
  bk : Ev → Sto → Prop
  ct : Ev → Sto → Prop
  ex : Xc → Ev → Sto → Prop
abbrev TSd := Ev → Sto → Nd → Prop
abbrev TFd := List D → Sto → DK → EK → Prop
def MoE {α : Type} (t : TX α) : Prop := ∀ env S (Q Q' : α → Sto → Prop) (E E' : EK), (∀ d S, Q d S → Q' d S) → (∀ x S, E x S → E' x S) → t env S Q E → t env S Q' E'
structure NdLe (A B : Nd) : Prop where
  nx : ∀ e S, A.nx e S → B.nx e S
  rt : ∀ d S, A.rt d S → B.rt d S
  bk : ∀ e S, A.bk e S → B.bk e S
  ct : ∀ e S, A.ct e S → B.ct e S
  ex : ∀ x e S, A.ex x e S → B.ex x e S
def MoS (t : TSd) : Prop := ∀ env S (A B : Nd), NdLe A B → t env S A → t env S B
def MoF (f : TFd) : Prop := ∀ ds S (Q Q' : DK) (E E' : EK), (∀ d S, Q d S → Q' d S) → (∀ x S, E x S → E' x S) → f ds S Q E → f ds S Q' E'

structure Aft (K : Kz) (S : Sto) (H : Hp) (S' : Sto) (H' : Hp) : Prop where
  st : Step S H S' H'
  rs : RS K S' H'
theorem Aft.trans {K : Kz} {S S1 S2 : Sto} {H H1 H2 : Hp} (a : Aft K S H S1 H1) (b : Aft K S1 H1 S2 H2) : Aft K S H S2 H2 := ⟨a.st.trans b.st, b.rs⟩
theorem Aft.refl {K : Kz} {S : Sto} {H : Hp} (rs : RS K S H) : Aft K S H S H := ⟨Step.refl S H, rs⟩

/-- what is wanted of an exception -/
def PX (K : Kz) (S : Sto) (H : Hp) (σ : L2.St) (W : WX) : EK := fun x S' => ∀ c dx H', Aft K S H S' H' → RX K S' H' x c dx → W c dx σ H'
def LE (K : PySem.W.Frag) (W : WX) (t : TEd) : TE := fun σ H Q => ∃ Z env S, RE ⟨K, Z⟩ S H env σ ∧ RS ⟨K, Z⟩ S H ∧ t env S (fun d S' => ∀ v H', Aft ⟨K, Z⟩ S H S' H' → Rp ⟨K, Z⟩ S' H' d v → Q v H') (PX ⟨K, Z⟩ S H σ W)
def LT (K : PySem.W.Frag) (W : WX) (t : TTd) : TT := fun σ H Q => ∃ Z env S, RE ⟨K, Z⟩ S H env σ ∧ RS ⟨K, Z⟩ S H ∧ t env S (fun b S' => ∀ H', Aft ⟨K, Z⟩ S H S' H' → Q b H') (PX ⟨K, Z⟩ S H σ W)
def LA (K : PySem.W.Frag) (W : WX) (t : TAd) : TA := fun σ H Q => ∃ Z env S, RE ⟨K, Z⟩ S H env σ ∧ RS ⟨K, Z⟩ S H ∧ t env S (fun ds S' => ∀ vs H', Aft ⟨K, Z⟩ S H S' H' → RpL ⟨K, Z⟩ S' H' ds vs → Q vs H') (PX ⟨K, Z⟩ S H σ W)
def LN (K : Kz) (S : Sto) (H : Hp) (W : WX) (N : Ends) : Nd where
  nx := fun e S' => ∀ σ' H', Aft K S H S' H' → RE K S' H' e σ' → N.nx σ' H'
  rt := fun d S' => ∀ v H', Aft K S H S' H' → Rp K S' H' d v → N.rt v H'
  bk := fun e S' => ∀ σ' H', Aft K S H S' H' → RE K S' H' e σ' → N.bk σ' H'
  ct := fun e S' => ∀ σ' H', Aft K S H S' H' → RE K S' H' e σ' → N.ct σ' H'
  ex := fun x e S' => ∀ c dx σ' H', Aft K S H S' H' → RE K S' H' e σ' → RX K S' H' x c dx → W c dx σ' H'
def LS (K : PySem.W.Frag) (W : WX) (t : TSd) : TS := fun N σ H => ∃ Z env S, RE ⟨K, Z⟩ S H env σ ∧ RS ⟨K, Z⟩ S H ∧ t env S (LN ⟨K, Z⟩ S H W N)

structure JE (X : Cx) (W : WX) (e : Expr) (t : TEd) : Prop where
  pe : PE X e (LE X.K W t)
  mo : MoE t
structure JT (X : Cx) (W : WX) (e : Expr) (t : TTd) : Prop where
  pt : PT X e (LT X.K W t)
  mo : MoE t
structure JW (X : Cx) (W : WX) (e : Expr) (t : TTd) : Prop where
  pw : PW X e (LT X.K W t)
  mo : MoE t
structure JA (X : Cx) (W : WX) (es : List Expr) (t : TAd) : Prop where
  pa : PA X es (LA X.K W t)
  mo : MoE t
structure JS (X : Cx) (W : WX) (st : Stmt) (t : TSd) : Prop where
  ps : PS X st (LS X.K W t)
  mo : MoS t
structure JB (X : Cx) (W : WX) (st : List Stmt) (t : TSd) : Prop where
  ps : PSs X st (LS X.K W t)
  mo : MoS t

theorem PE.imp {X : Cx} {e : Expr} {t u : TE} (h : PE X e t) (k : ∀ σ H Q, u σ H Q → t σ H Q) : PE X e u := ⟨fun pins s σ H Q I q => h.run pins s σ H Q I (k σ H Q q)⟩
theorem PT.imp {X : Cx} {e : Expr} {t u : TT} (h : PT X e t) (k : ∀ σ H Q, u σ H Q → t σ H Q) : PT X e u := ⟨fun pins s σ H Q I q => h.run pins s σ H Q I (k σ H Q q)⟩
theorem PW.imp {X : Cx} {e : Expr} {t u : TT} (h : PW X e t) (k : ∀ σ H Q, u σ H Q → t σ H Q) : PW X e u := ⟨fun wh pins s σ H Q I q => h.run wh pins s σ H Q I (k σ H Q q)⟩
theorem PA.imp {X : Cx} {es : List Expr} {t u : TA} (h : PA X es t) (k : ∀ σ H Q, u σ H Q → t σ H Q) : PA X es u := ⟨fun p pins s σ H Q I q => h.run p pins s σ H Q I (k σ H Q q)⟩
theorem PS.imp {X : Cx} {st : Stmt} {t u : TS} (h : PS X st t) (k : ∀ N σ H, u N σ H → t N σ H) : PS X st u := ⟨fun pins s σ H N I q => h.run pins s σ H N I (k N σ H q)⟩
theorem PSs.imp {X : Cx} {st : List Stmt} {t u : TS} (h : PSs X st t) (k : ∀ N σ H, u N σ H → t N σ H) : PSs X st u := ⟨fun pins s σ H N I q => h.run pins s σ H N I (k N σ H q)⟩

/-! ### the lifted forms, from a state -/
section
variable {K : Kz} {W : WX} {S : Sto} {H : Hp} {env : Ev} {σ : L2.St}
theorem LE.of {t : TEd} (mo : MoE t) (re : RE K S H env σ) (rs : RS K S H) {C : DK} {E : EK} {R : VK} (h : t env S C E)
    (hc : ∀ d S1 v H1, C d S1 → Aft K S H S1 H1 → Rp K S1 H1 d v → R v H1) (he : ∀ x S1 c dx H1, E x S1 → Aft K S H S1 H1 → RX K S1 H1 x c dx → W c dx σ H1) : LE K.K W t σ H R :=
  ⟨K.Z, env, S, re, rs, mo _ _ _ _ _ _ (fun d S1 q v H1 a r => hc d S1 v H1 q a r) (fun x S1 q c dx H1 a r => he x S1 c dx H1 q a r) h⟩
theorem LT.of {t : TTd} (mo : MoE t) (re : RE K S H env σ) (rs : RS K S H) {C : Bool → Sto → Prop} {E : EK} {R : Bool → Hp → Prop} (h : t env S C E)
    (hc : ∀ d S1 H1, C d S1 → Aft K S H S1 H1 → R d H1) (he : ∀ x S1 c dx H1, E x S1 → Aft K S H S1 H1 → RX K S1 H1 x c dx → W c dx σ H1) : LT K.K W t σ H R :=
  ⟨K.Z, env, S, re, rs, mo _ _ _ _ _ _ (fun d S1 q H1 a => hc d S1 H1 q a) (fun x S1 q c dx H1 a r => he x S1 c dx H1 q a r) h⟩
theorem LA.of {t : TAd} (mo : MoE t) (re : RE K S H env σ) (rs : RS K S H) {C : List D → Sto → Prop} {E : EK} {R : List V → Hp → Prop} (h : t env S C E)
    (hc : ∀ d S1 v H1, C d S1 → Aft K S H S1 H1 → RpL K S1 H1 d v → R v H1) (he : ∀ x S1 c dx H1, E x S1 → Aft K S H S1 H1 → RX K S1 H1 x c dx → W c dx σ H1) : LA K.K W t σ H R :=
  ⟨K.Z, env, S, re, rs, mo _ _ _ _ _ _ (fun d S1 q v H1 a r => hc d S1 v H1 q a r) (fun x S1 q c dx H1 a r => he x S1 c dx H1 q a r) h⟩
theorem LS.of {t : TSd} (mo : MoS t) (re : RE K S H env σ) (rs : RS K S H) {N : Nd} {M : Ends} (h : t env S N) (hl : NdLe N (LN K S H W M)) : LS K.K W t M σ H :=
  ⟨K.Z, env, S, re, rs, mo _ _ _ _ hl h⟩
/-- exceptions behind a step -/
theorem PX.after {S1 : Sto} {H1 : Hp} (a : Aft K S H S1 H1) {x : Xc} {S2 : Sto} (h : PX K S H σ W x S2) : ∀ c dx H2, Aft K S1 H1 S2 H2 → RX K S2 H2 x c dx → W c dx σ H2 :=
  fun c dx H2 b r => h c dx H2 (a.trans b) r
theorem LN.after {S1 : Sto} {H1 : Hp} (a : Aft K S H S1 H1) (N : Ends) : NdLe (LN K S H W N) (LN K S1 H1 W N) :=
  ⟨fun e S2 h σ' H' b r => h σ' H' (a.trans b) r, fun d S2 h v H' b r => h v H' (a.trans b) r, fun e S2 h σ' H' b r => h σ' H' (a.trans b) r,
   fun e S2 h σ' H' b r => h σ' H' (a.trans b) r, fun x e S2 h c dx σ' H' b r q => h c dx σ' H' (a.trans b) r q⟩
end

/-! ### a list that is made out of sight -/
abbrev Kz.more (K : Kz) (p : Addr) : Kz := ⟨K.K, fun b => K.Z b ∨ b = p⟩
section
variable {K : Kz} {S : Sto} {H : Hp} {p : Addr}
mutual
theorem Rp.hide {xs : List V} (hp : H p = none) : ∀ (d : D) (v : V), Rp K S H d v → Rp (K.more p) S (upd H p (.lst xs)) d v
  | .non, _, h => by cases h; exact .non
  | .bl b, _, h => by cases h; exact .bl b
  | .int i, _, h => by cases h; exact .int i
  | .str x, _, h => by cases h; exact .str x
  | .tup ds, _, h => by
    cases h with
    | tup hs ha =>
      refine .tup ?_ (RpL.hide hp ds _ ha)
      rcases hs with (h | ⟨o, h⟩) | h
      · exact .inl (.inl (by rw [upd_ne (ne_of_none h hp)]; exact h))
      · exact .inl (.inr ⟨o, by rw [upd_ne (ne_of_none h hp)]; exact h⟩)
      · exact .inr h
  | .lst ds, _, h => by
    cases h with
    | lst hs hn hz ha =>
      rename_i a vs
      have ne : a ≠ p := by
        rcases hs with h | ⟨o, h⟩
        · exact ne_of_none h hp
        · exact ne_of_none h hp
      refine .lst ?_ hn (fun z => z.elim hz ne) (RpL.hide hp ds _ ha)
      rcases hs with h | ⟨o, h⟩
      · exact .inl (by rw [upd_ne ne]; exact h)
      · exact .inr ⟨o, by rw [upd_ne ne]; exact h⟩
    | lstK hs ha => exact .lstK hs (RpL.hide hp ds _ ha)
  | .ref a, _, h => by cases h with | ref _ l => exact .ref a ((Kept.new hp).isL l)
  | .obj a, _, h => by cases h; exact .obj a
  | .own a, _, h => by cases h with | own _ l => exact .own a ((Kept.new hp).isO l)
  | .ins C ns ds, _, h => by
    cases h with
    | ins h1 h2 h3 h4 => exact .ins (by rw [upd_ne (ne_of_none h1 hp)]; exact h1) h2 h3 (RpL.hide hp ds _ h4)
theorem RpL.hide {xs : List V} (hp : H p = none) : ∀ (ds : List D) (vs : List V), RpL K S H ds vs → RpL (K.more p) S (upd H p (.lst xs)) ds vs
  | [], _, h => by cases h; exact .nil
  | d :: ds, _, h => by
    cases h with
    | cons h1 h2 => exact .cons (Rp.hide hp d _ h1) (RpL.hide hp ds _ h2)
end
mutual
/-- the hidden list is written -/
theorem Rp.grow {xs ys : List V} (hp : H p = some (.lst ys)) : ∀ (d : D) (v : V), Rp (K.more p) S H d v → Rp (K.more p) S (upd H p (.lst xs)) d v
  | .non, _, h => by cases h; exact .non
  | .bl b, _, h => by cases h; exact .bl b
  | .int i, _, h => by cases h; exact .int i
  | .str x, _, h => by cases h; exact .str x
  | .tup ds, _, h => by
    cases h with
    | tup hs ha =>
      rename_i a vs
      refine .tup ?_ (RpL.grow hp ds _ ha)
      rcases hs with (h | ⟨o, h⟩) | h
      · exact .inl (.inl (by rw [upd_ne (ne_of h hp (by intro z; cases z))]; exact h))
      · exact .inl (.inr ⟨o, by rw [upd_ne (ne_of h hp (by intro z; cases z))]; exact h⟩)
      · exact .inr h
  | .lst ds, _, h => by
    cases h with
    | lst hs hn hz ha =>
      rename_i a vs
      have ne : a ≠ p := fun z => hz (.inr z)
      refine .lst ?_ hn hz (RpL.grow hp ds _ ha)
      rcases hs with h | ⟨o, h⟩
      · exact .inl (by rw [upd_ne ne]; exact h)
      · exact .inr ⟨o, by rw [upd_ne ne]; exact h⟩
    | lstK hs ha => exact .lstK hs (RpL.grow hp ds _ ha)
  | .ref a, _, h => by cases h with | ref _ l => exact .ref a ((Kept.upd fun o' e => by rw [hp] at e; cases e; rfl).isL l)
  | .obj a, _, h => by cases h; exact .obj a
  | .own a, _, h => by cases h with | own _ l => exact .own a ((Kept.upd fun o' e => by rw [hp] at e; cases e; rfl).isO l)
  | .ins C ns ds, _, h => by
    cases h with
    | ins h1 h2 h3 h4 => exact .ins (by rw [upd_ne (ne_of h1 hp (by intro z; cases z))]; exact h1) h2 h3 (RpL.grow hp ds _ h4)
theorem RpL.grow {xs ys : List V} (hp : H p = some (.lst ys)) : ∀ (ds : List D) (vs : List V), RpL (K.more p) S H ds vs → RpL (K.more p) S (upd H p (.lst xs)) ds vs
  | [], _, h => by cases h; exact .nil
  | d :: ds, _, h => by
    cases h with
    | cons h1 h2 => exact .cons (Rp.grow hp d _ h1) (RpL.grow hp ds _ h2)
end
mutual
theorem Rp.show_ : ∀ (d : D) (v : V), Rp (K.more p) S H d v → Rp K S H d v
  | .non, _, h => by cases h; exact .non
  | .bl b, _, h => by cases h; exact .bl b
  | .int i, _, h => by cases h; exact .int i
  | .str x, _, h => by cases h; exact .str x
  | .tup ds, _, h => by
    cases h with
    | tup hs ha => exact .tup hs (RpL.show_ ds _ ha)
  | .lst ds, _, h => by
    cases h with
    | lst hs hn hz ha => exact .lst hs hn (fun z => hz (.inl z)) (RpL.show_ ds _ ha)
    | lstK hs ha => exact .lstK hs (RpL.show_ ds _ ha)
  | .ref a, _, h => by cases h with | ref _ l => exact .ref a l
  | .obj a, _, h => by cases h; exact .obj a
  | .own a, _, h => by cases h with | own _ l => exact .own a l
  | .ins C ns ds, _, h => by
    cases h with
    | ins h1 h2 h3 h4 => exact .ins h1 h2 h3 (RpL.show_ ds _ h4)
theorem RpL.show_ : ∀ (ds : List D) (vs : List V), RpL (K.more p) S H ds vs → RpL K S H ds vs
  | [], _, h => by cases h; exact .nil
  | d :: ds, _, h => by
    cases h with
    | cons h1 h2 => exact .cons (Rp.show_ d _ h1) (RpL.show_ ds _ h2)
end
mutual
/-- the list is told -/
theorem Rp.unhide {es : List D} (hp : IsL H p) : ∀ (d : D) (v : V), Rp (K.more p) S H d v → Rp K (sup S p es) H d v
  | .non, _, h => by cases h; exact .non
  | .bl b, _, h => by cases h; exact .bl b
  | .int i, _, h => by cases h; exact .int i
  | .str x, _, h => by cases h; exact .str x
  | .tup ds, _, h => by
    cases h with
    | tup hs ha => exact .tup hs (RpL.unhide hp ds _ ha)
  | .lst ds, _, h => by
    cases h with
    | lst hs hn hz ha => exact .lst hs (by rw [sup_ne fun z => hz (.inr z)]; exact hn) (fun z => hz (.inl z)) (RpL.unhide hp ds _ ha)
    | lstK hs ha => exact .lstK hs (RpL.unhide hp ds _ ha)
  | .ref a, _, h => by cases h with | ref _ l => exact .ref a l
  | .obj a, _, h => by cases h; exact .obj a
  | .own a, _, h => by cases h with | own _ l => exact .own a l
  | .ins C ns ds, _, h => by
    cases h with
    | ins h1 h2 h3 h4 => exact .ins h1 (by rw [sup_ne fun z => by obtain ⟨xs, e⟩ := hp; rw [z, e] at h1; cases h1]; exact h2) h3 (RpL.unhide hp ds _ h4)
theorem RpL.unhide {es : List D} (hp : IsL H p) : ∀ (ds : List D) (vs : List V), RpL (K.more p) S H ds vs → RpL K (sup S p es) H ds vs
  | [], _, h => by cases h; exact .nil
  | d :: ds, _, h => by
    cases h with
    | cons h1 h2 => exact .cons (Rp.unhide hp d _ h1) (RpL.unhide hp ds _ h2)
end
theorem RS.hide {xs : List V} (rs : RS K S H) (hp : H p = none) : RS (K.more p) S (upd H p (.lst xs)) := by
  refine ⟨fun a ds e => ?_, fun b hb => ?_⟩
  · obtain ⟨o, q, r⟩ := rs.at_ a ds e
    exact ⟨o, by rw [upd_ne (ne_of_none q hp)]; exact q, r.map fun _ _ => RpL.hide hp _ _⟩
  · rcases hb with hb | rfl
    · obtain ⟨n, vs, q⟩ := rs.hid b hb
      exact ⟨n, vs, by rw [upd_ne (ne_of_none q hp)]; exact q⟩
    · exact ⟨rs.free hp, xs, upd_same⟩
theorem RS.grow {xs ys : List V} (rs : RS (K.more p) S H) (hp : H p = some (.lst ys)) : RS (K.more p) S (upd H p (.lst xs)) := by
  have np : S p = none := (rs.hid p (.inr rfl)).1
  refine ⟨fun a ds e => ?_, fun b hb => ?_⟩
  · obtain ⟨o, q, r⟩ := rs.at_ a ds e
    have ne : a ≠ p := fun z => by rw [z, np] at e; cases e
    exact ⟨o, by rw [upd_ne ne]; exact q, r.map fun _ _ => RpL.grow hp _ _⟩
  · obtain ⟨n, vs, q⟩ := rs.hid b hb
    by_cases hbp : b = p
    · subst hbp
      exact ⟨n, xs, upd_same⟩
    · exact ⟨n, vs, by rw [upd_ne hbp]; exact q⟩
theorem RS.show_ (rs : RS (K.more p) S H) : RS K S H := by
  refine ⟨fun a ds e => ?_, fun b hb => rs.hid b (.inl hb)⟩
  obtain ⟨o, q, r⟩ := rs.at_ a ds e
  exact ⟨o, q, r.map fun _ _ => RpL.show_ _ _⟩
theorem Rp.made {ds : List D} {vs : List V} (rs : RS (K.more p) S H) (hp : H p = some (.lst vs)) (hz : ¬ K.Z p) (r : RpL (K.more p) S H ds vs) : Rp K S H (.lst ds) (.ref p) :=
  .lst (.inl hp) (rs.hid p (.inr rfl)).1 hz (RpL.show_ _ _ r)
end
end Bl

namespace Bl
open PySem PySem.Spec PyProof.Rows L2

/-! ### where one stands -/
/-- a block's view: the slots that it sees, its locals, its cells; the module's and built-in names -/
structure Vw where
  vl : List Nat
  lo : List Nat
  ce : List Nat
  gs : List Str
/-- the names of a block by slot -/
structure Sc (N : List Str) (sc : Scope) (vw : Vw) : Prop where
  vis : ∀ i ∈ vw.vl, ∀ x, N[i]? = some x → Vis sc x ∧ (x == ("__debug__" : Str)) = false ∧ (x == ("__classdict__" : Str)) = false
  loc : ∀ i ∈ vw.lo, ∀ x, N[i]? = some x → sc.names.lookup x = some .local
  cel : ∀ i ∈ vw.ce, ∀ x, N[i]? = some x → sc.names.lookup x = some .cell
  gl : ∀ x ∈ vw.gs, sc.names.lookup x = some .globalImplicit ∧ x ≠ "__name__" ∧ (x == ("__debug__" : Str)) = false
def isLoc : Option NameKind → Bool
  | some .local => true
  | _ => false
def isCel : Option NameKind → Bool
  | some .cell => true
  | _ => false
def isVis : Option NameKind → Bool
  | some .local => true
  | some .cell => true
  | some .free => true
  | _ => false
def isGlo : Option NameKind → Bool
  | some .globalImplicit => true
  | _ => false
def scC (N : List Str) (sc : Scope) (vw : Vw) : Bool :=
  (vw.vl.all fun i => match N[i]? with
    | none => true
    | some x => isVis (sc.names.lookup x) && !(x == ("__debug__" : Str)) && !(x == ("__classdict__" : Str))) &&
  ((vw.lo.all fun i => match N[i]? with
    | none => true
    | some x => isLoc (sc.names.lookup x)) && (vw.ce.all fun i => match N[i]? with
    | none => true
    | some x => isCel (sc.names.lookup x))) &&
  (vw.gs.all fun x => isGlo (sc.names.lookup x) && decide (x ≠ "__name__") && !(x == ("__debug__" : Str)))
theorem scOf {N : List Str} {sc : Scope} {vw : Vw} (h : scC N sc vw = true) : Sc N sc vw := by
  unfold scC at h
  rw [Bool.and_eq_true, Bool.and_eq_true, Bool.and_eq_true, List.all_eq_true, List.all_eq_true, List.all_eq_true, List.all_eq_true] at h
  obtain ⟨⟨h1, h3, h4⟩, h2⟩ := h
  refine ⟨fun i hi x e => ?_, fun i hi x e => ?_, fun i hi x e => ?_, fun x hx => ?_⟩
  · have q := h1 i hi
    rw [e] at q
    simp only [Bool.and_eq_true, Bool.not_eq_true'] at q
    refine ⟨?_, q.1.2, q.2⟩
    have z := q.1.1
    unfold isVis at z
    unfold Vis
    split at z
    · exact .inl (by assumption)
    · exact .inr (.inl (by assumption))
    · exact .inr (.inr (by assumption))
    · cases z
  · have z := h3 i hi
    rw [e] at z
    dsimp only at z
    unfold isLoc at z
    split at z
    · assumption
    · cases z
  · have z := h4 i hi
    rw [e] at z
    dsimp only at z
    unfold isCel at z
    split at z
    · assumption
    · cases z
  · have q := h2 x hx
    simp only [Bool.and_eq_true, Bool.not_eq_true', decide_eq_true_eq] at q
    refine ⟨?_, q.1.2, q.2⟩
    have z := q.1.1
    unfold isGlo at z
    split at z
    · assumption
    · cases z

/-- a block in whose def the reprs under way are known: none (its names tell) -/
def gzN (N : List Str) : Bool := N.contains ("_law_odd" : Str)
/-- what is told of the program and of the block -/
structure JC (P : Program) (w : World) (K : PySem.W.Frag) (mg : Str → Option Value) (base : Heap) (N : List Str) (sc : Scope) (vw : Vw) (k : Nat) (X : Cx) (W : WX) : Prop where
  prog : X.prog = P
  ww : X.w = w
  kk : X.K = K
  gg : X.mg = mg
  bb : X.base = base
  nn : X.N = N
  ss : X.env.scope = sc
  sC : Sc N sc vw
  nd : N.Nodup
  calm : X.calm = true
  room : Room k X.A
  tk : Takes X W
  kd : X.env.scope.kind = .function
  gs : gzN N = true → X.A.guards = some []
/-- a def's own body -/
structure JD (P : Program) (w : World) (K : PySem.W.Frag) (mg : Str → Option Value) (base : Heap) (N : List Str) (sc : Scope) (vw : Vw) (k : Nat) (X : Cx) (W : WX) : Prop extends JC P w K mg base N sc vw k X W where
  po : PassesOwn (model X.prog X.w) X.A X.env X.xe
  fn : ∀ x, X.fn x = true
  hs : X.stack = X.env :: X.outer
  hf : X.env.frame = some X.env.locals

section
variable {P : Program} {w : World} {K : PySem.W.Frag} {mg : Str → Option Value} {base : Heap} {N : List Str} {sc : Scope} {vw : Vw} {k : Nat} {X : Cx} {W : WX}
theorem JC.gl (c : JC P w K mg base N sc vw k X W) {x : Str} (h : x ∈ vw.gs) : Gl X x := by
  show X.env.scope.names.lookup x = some .globalImplicit
  rw [c.ss]
  exact (c.sC.gl x h).1
end

/-! ### names, constants -/
def vr (i : Nat) : TEd := fun env S Q _ => match env[i]? with
  | some (some d) => Q d S
  | _ => False
def cn (d : D) : TEd := fun _ S Q _ => Q d S
section
variable {P : Program} {w : World} {K : PySem.W.Frag} {mg : Str → Option Value} {base : Heap} {N : List Str} {sc : Scope} {vw : Vw} {k : Nat} {X : Cx} {W : WX}
theorem moVr (i : Nat) : MoE (vr i) := fun env S Q Q' E E' h _ q => by
  unfold vr at q ⊢
  split at q
  · exact h _ _ q
  · exact q
theorem moCn (d : D) : MoE (cn d) := fun env S Q Q' E E' h _ q => h _ _ q
theorem jv (c : JC P w K mg base N sc vw k X W) (i : Nat) {x : Str} {pos : Pos} (hi : i ∈ vw.vl) (hN : N[i]? = some x) : JE X W (.Name x pos) (vr i) := by
  obtain ⟨v1, v2, v3⟩ := c.sC.vis i hi x hN
  refine ⟨PE.imp (pe_var (i := i) (by rw [c.nn]; exact hN) (by rw [c.ss]; exact v1) v2 v3) fun σ H Q h => ?_, moVr i⟩
  obtain ⟨Z, env, S, re, rs, q⟩ := h
  unfold vr at q
  split at q
  · rename_i d e
    obtain ⟨v, e1, r⟩ := re.at_ i d e
    exact ⟨v, e1, q v H (.refl rs) r⟩
  · exact q.elim
theorem LE.cn {W : WX} {d : D} {v : V} {σ : L2.St} {H : Hp} {Q : VK} (hr : ∀ Z S H, Rp ⟨K, Z⟩ S H d v) (h : LE K W (cn d) σ H Q) : Q v H := by
  obtain ⟨Z, env, S, re, rs, q⟩ := h
  exact q v H (.refl rs) (hr _ _ _)
theorem je_int {i : Int} {j : Nat} {pos : Pos} : JE X W (.Constant (.int i) j pos) (cn (.int i)) := ⟨PE.imp pe_int fun σ H Q h => LE.cn (fun _ _ _ => .int i) h, moCn _⟩
theorem je_bl {b : Bool} {j : Nat} {pos : Pos} : JE X W (.Constant (.bool b) j pos) (cn (.bl b)) := ⟨PE.imp pe_bl fun σ H Q h => LE.cn (fun _ _ _ => .bl b) h, moCn _⟩
theorem je_non {j : Nat} {pos : Pos} : JE X W (.Constant .none j pos) (cn .non) := ⟨PE.imp pe_non fun σ H Q h => LE.cn (fun _ _ _ => .non) h, moCn _⟩
theorem je_str {x : Str} {j : Nat} {pos : Pos} : JE X W (.Constant (.str x) j pos) (cn (.str x)) := ⟨PE.imp pe_str fun σ H Q h => LE.cn (fun _ _ _ => .str x) h, moCn _⟩
/-- a module's constant -/
structure GC (K : PySem.W.Frag) (mg : Str → Option Value) (x : Str) (d : D) : Prop where
  ex : ∃ u v, mg x = some u ∧ RelV v u ∧ ∀ Z S H, Rp ⟨K, Z⟩ S H d v
theorem je_glob (c : JC P w K mg base N sc vw k X W) {x : Str} {pos : Pos} {d : D} (hx : x ∈ vw.gs) (g : GC K mg x d) : JE X W (.Name x pos) (cn d) := by
  obtain ⟨u, v, e, r, q⟩ := g.ex
  have hk := c.kk
  subst hk
  exact ⟨PE.imp (pe_glob (c.gl hx) (by rw [c.gg]; exact e) r (c.sC.gl x hx).2.2) fun σ H Q h => LE.cn q h, moCn _⟩
end

/-! ### two operands -/
abbrev F2 := D → D → Sto → DK → Prop
def MoF2 (f : F2) : Prop := ∀ x y S (Q Q' : DK), (∀ d S, Q d S → Q' d S) → f x y S Q → f x y S Q'
def dTwo (ta tb : TEd) (f : F2) : TEd := fun env S Q E => ta env S (fun x S1 => tb env S1 (fun y S2 => f x y S2 Q) E) E
theorem moTwo {ta tb : TEd} {f : F2} (ha : MoE ta) (hb : MoE tb) (hf : MoF2 f) : MoE (dTwo ta tb f) := fun env S Q Q' E E' h he q =>
  ha _ _ _ _ _ _ (fun x S1 q1 => hb _ _ _ _ _ _ (fun y S2 q2 => hf _ _ _ _ _ h q2) he q1) he q
/-- what is wanted behind, from a state -/
abbrev PQ (K : Kz) (S : Sto) (H : Hp) (Q : VK) : DK := fun d S' => ∀ v H', Aft K S H S' H' → Rp K S' H' d v → Q v H'
theorem PQ.after {K : Kz} {S S1 : Sto} {H H1 : Hp} (a : Aft K S H S1 H1) {Q : VK} {d : D} {S2 : Sto} (h : PQ K S H Q d S2) : PQ K S1 H1 Q d S2 := fun v H' b r => h v H' (a.trans b) r
theorem two {K : PySem.W.Frag} {W : WX} {ta tb : TEd} {f : F2} (ha : MoE ta) (hb : MoE tb) (hf : MoF2 f) {σ : L2.St} {H : Hp} {Q : VK} (h : LE K W (dTwo ta tb f) σ H Q) :
    LE K W ta σ H fun x H1 => LE K W tb σ H1 fun y H2 => ∃ Z S dx dy, RS ⟨K, Z⟩ S H2 ∧ Rp ⟨K, Z⟩ S H2 dx x ∧ Rp ⟨K, Z⟩ S H2 dy y ∧ f dx dy S (PQ ⟨K, Z⟩ S H2 Q) := by
  obtain ⟨Z, env, S, re, rs, q⟩ := h
  refine LE.of ha re rs q (fun dx S1 x H1 q1 a1 r1 => ?_) fun x S1 c dx H1 q1 a1 r1 => q1 c dx H1 a1 r1
  refine LE.of hb (re.step a1.st rs) a1.rs q1 (fun dy S2 y H2 q2 a2 r2 => ?_) fun x S2 c dx H2 q2 a2 r2 => q2 c dx H2 (a1.trans a2) r2
  exact ⟨Z, S2, dx, dy, a2.rs, Rp.step a2.st a1.rs _ _ r1, r2, hf _ _ _ _ _ (fun d S3 q3 => PQ.after (a1.trans a2) q3) q2⟩

/-- an operator of two data -/
structure OpD (X : Cx) (g : Value → Value → Sem Value) (f : F2) : Prop where
  mo : MoF2 f
  run : ∀ (pins : List (Addr × Obj)) (s : Shared) (σ : L2.St) (H : Hp) (x y : V) (v u : Value) (Q : VK) (Z : Addr → Prop) (S : Sto) (dx dy : D), Inv X pins σ H s → RelV x v → RelV y u → RS ⟨X.K, Z⟩ S H → Rp ⟨X.K, Z⟩ S H dx x → Rp ⟨X.K, Z⟩ S H dy y →
    f dx dy S (PQ ⟨X.K, Z⟩ S H Q) → wpAny (model X.prog X.w) X.A (g v u) (EP X pins σ Q) X.xe s
section
variable {X : Cx} {W : WX} {a b : Expr} {ta tb : TEd} {pos : Pos}
theorem je_op {op : Operator} {f : F2} (ho : OpD X (binaryOp op) f) (ha : JE X W a ta) (hb : JE X W b tb) : JE X W (.BinOp a op b pos) (dTwo ta tb f) := by
  refine ⟨⟨fun pins s σ H Q I h => ?_⟩, moTwo ha.mo hb.mo ho.mo⟩
  refine wpAny_BinOp (bin ha.pe hb.pe I (two ha.mo hb.mo ho.mo h) fun v u s2 x y H2 I2 rx ry q => ?_)
  obtain ⟨Z, S, dx, dy, rs, r1, r2, q⟩ := q
  exact ho.run pins s2 σ H2 x y v u Q Z S dx dy I2 rx ry rs r1 r2 q
theorem je_cmp {op : CmpOp} {f : F2} (ho : OpD X (compareOp op) f) (ha : JE X W a ta) (hb : JE X W b tb) (hm : behindInMarks op b = false) : JE X W (.Compare a [op] [b] pos) (dTwo ta tb f) := by
  refine ⟨⟨fun pins s σ H Q I h => ?_⟩, moTwo ha.mo hb.mo ho.mo⟩
  refine wpAny_Compare1 (bin ha.pe hb.pe I (two ha.mo hb.mo ho.mo h) fun v u s2 x y H2 I2 rx ry q => ?_) hm
  obtain ⟨Z, S, dx, dy, rs, r1, r2, q⟩ := q
  exact ho.run pins s2 σ H2 x y v u Q Z S dx dy I2 rx ry rs r1 r2 q
end

/-! ### tests -/
/-- a value that is a truth, as a test -/
def tbl (t : TEd) : TTd := fun env S Q E => t env S (fun d S' => match d with | .bl b => Q b S' | _ => False) E
theorem moTbl {t : TEd} (h : MoE t) : MoE (tbl t) := fun env S Q Q' E E' hq he q => h _ _ _ _ _ _ (fun d S1 q1 => by
  cases d <;> first | exact hq _ _ q1 | exact q1) he q
theorem tblV {K : PySem.W.Frag} {W : WX} {t : TEd} (mo : MoE t) {σ : L2.St} {H : Hp} {Q : Bool → Hp → Prop} (h : LT K W (tbl t) σ H Q) : LE K W t σ H fun x H1 => ∃ c, x = .bl c ∧ Q c H1 := by
  obtain ⟨Z, env, S, re, rs, q⟩ := h
  refine LE.of mo re rs q (fun d S1 x H1 q1 a1 r1 => ?_) fun x S1 c dx H1 q1 a1 r1 => q1 c dx H1 a1 r1
  cases d <;> first | exact q1.elim | skip
  rename_i b
  cases r1
  exact ⟨b, rfl, q1 H1 a1⟩
/-- any value, by its truth -/
def truD : D → Sto → (Bool → Sto → Prop) → Prop := fun d S Q => match d with
  | .non => Q false S
  | .bl b => Q b S
  | .int i => Q (i != 0) S
  | .str x => x.length ≤ sizeLine ∧ Q ((x.length : Int) != 0) S
  | .tup ds => Q (!ds.isEmpty) S
  | .lst ds => Q (!ds.isEmpty) S
  | .ref a => match S a with | some ds => Q (!ds.isEmpty) S | none => False
  | _ => False
def ttr (t : TEd) : TTd := fun env S Q E => t env S (fun d S' => truD d S' Q) E
theorem moTruD {d : D} {S : Sto} {Q Q' : Bool → Sto → Prop} (h : ∀ b S, Q b S → Q' b S) (q : truD d S Q) : truD d S Q' := by
  unfold truD at q ⊢
  cases d <;> first
    | exact h _ _ q
    | exact ⟨q.1, h _ _ q.2⟩
    | (dsimp only at q ⊢; split at q <;> first | exact h _ _ q | exact q.elim)
    | exact q
theorem moTtr {t : TEd} (h : MoE t) : MoE (ttr t) := fun env S Q Q' E E' hq he q => h _ _ _ _ _ _ (fun d S1 q1 => moTruD hq q1) he q
theorem isEmpty_rpl {K : Kz} {S : Sto} {H : Hp} {ds : List D} {vs : List V} (r : RpL K S H ds vs) : ds.isEmpty = vs.isEmpty := by
  cases r <;> rfl
theorem SqL.ofK {K : PySem.W.Frag} {H : Hp} {a : Addr} {vs : List V} (h : KL K a vs) : SqL K H a vs := .inr h
theorem truV {K : Kz} {S : Sto} {H : Hp} {d : D} {v : V} (rs : RS K S H) (r : Rp K S H d v) {Q : Bool → Hp → Prop} (q : truD d S fun b S' => ∀ H', Aft K S H S' H' → Q b H') : ∃ k, TruV K.K v H k ∧ Q k H := by
  have a0 : Aft K S H S H := .refl rs
  cases r with
  | non => exact ⟨false, rfl, q H a0⟩
  | bl b => exact ⟨b, rfl, q H a0⟩
  | int i => exact ⟨_, rfl, q H a0⟩
  | str x => exact ⟨_, ⟨q.1, rfl⟩, q.2 H a0⟩
  | tup hs ha => exact ⟨_, .inr (.inl ⟨_, hs, rfl⟩), by rw [← isEmpty_rpl ha]; exact q H a0⟩
  | lst hs hn hz ha => exact ⟨_, .inl ⟨_, .inl hs, rfl⟩, by rw [← isEmpty_rpl ha]; exact q H a0⟩
  | lstK hs ha => exact ⟨_, .inl ⟨_, SqL.ofK hs, rfl⟩, by rw [← isEmpty_rpl ha]; exact q H a0⟩
  | ref a hL =>
    unfold truD at q
    dsimp only at q
    split at q
    · rename_i ds e
      obtain ⟨vs, e1, r1⟩ := rs.atL a ds e
      exact ⟨_, .inl ⟨_, SqL.of e1, rfl⟩, by rw [← isEmpty_rpl r1]; exact q H a0⟩
    · exact q.elim
  | obj a => exact q.elim
  | own a _ => exact q.elim
  | ins _ _ _ _ => exact q.elim
def tAndD (t u : TTd) : TTd := fun env S Q E => t env S (fun c S1 => if c = true then u env S1 Q E else Q false S1) E
def tOrD (t u : TTd) : TTd := fun env S Q E => t env S (fun c S1 => if c = true then Q true S1 else u env S1 Q E) E
def tNotD (t : TTd) : TTd := fun env S Q E => t env S (fun c S1 => Q (!c) S1) E
/-- and, or, not, a comparison as values: truths -/
def vOf (t : TTd) : TEd := fun env S Q E => t env S (fun c S1 => Q (.bl c) S1) E
def eIf (t : TTd) (ta tb : TEd) : TEd := fun env S Q E => t env S (fun c S1 => if c = true then ta env S1 Q E else tb env S1 Q E) E
section
variable {X : Cx} {W : WX} {a b : Expr} {ta tb : TEd} {pos : Pos} {t u : TTd} {rest : List Expr}
theorem jt_tru (h : JE X W a ta) (he : ∀ whole, isTrue a X.env whole = (do let v ← whole; standAt a.pos; holding [v] (truthy v)) := by intro _; rfl) : JT X W a (ttr ta) := by
  refine ⟨PT.imp (pt_truth h.pe he) fun σ H Q q => ?_, moTtr h.mo⟩
  obtain ⟨Z, env, S, re, rs, q⟩ := q
  refine LE.of h.mo re rs q (fun d S1 x H1 q1 a1 r1 => ?_) fun x S1 c dx H1 q1 a1 r1 => q1 c dx H1 a1 r1
  exact truV a1.rs r1 (moTruD (fun b S2 q2 H2 a2 => q2 H2 (a1.trans a2)) q1)
theorem jt_cmp {op : CmpOp} {f : F2} (ho : OpD X (compareOp op) f) (ha : JE X W a ta) (hb : JE X W b tb) (hm : behindInMarks op b = false) : JT X W (.Compare a [op] [b] pos) (tbl (dTwo ta tb f)) := by
  refine ⟨⟨fun pins s σ H Q I h => ?_⟩, moTbl (moTwo ha.mo hb.mo ho.mo)⟩
  refine wpAny_isTrue_Compare1 (thn (bin ha.pe hb.pe I (two ha.mo hb.mo ho.mo (tblV (moTwo ha.mo hb.mo ho.mo) h)) fun v u s2 x y H2 I2 rx ry q => ?_) fun v s1 h1 => thn h1 fun u s2 h2 => thn h2 fun c s3 z => z) hm
  obtain ⟨Z, S, dx, dy, rs, r1, r2, q⟩ := q
  refine thn (ho.run pins s2 σ H2 x y v u _ Z S dx dy I2 rx ry rs r1 r2 q) fun c s3 ⟨x, H1, I1, r1, q1⟩ => ?_
  obtain ⟨d, rfl, q⟩ := q1
  cases r1
  exact wpAny_truthy_bool ⟨H1, I1, q⟩
theorem jt_w (h : JW X W a t) : JT X W a t := ⟨h.pw.pt, h.mo⟩
theorem moAndD (h : MoE t) (h2 : MoE u) : MoE (tAndD t u) := fun env S Q Q' E E' hq he q => h _ _ _ _ _ _ (fun c S1 q1 => by
  cases c
  · exact hq _ _ q1
  · exact h2 _ _ _ _ _ _ hq he q1) he q
theorem moOrD (h : MoE t) (h2 : MoE u) : MoE (tOrD t u) := fun env S Q Q' E E' hq he q => h _ _ _ _ _ _ (fun c S1 q1 => by
  cases c
  · exact h2 _ _ _ _ _ _ hq he q1
  · exact hq _ _ q1) he q
theorem moNotD (h : MoE t) : MoE (tNotD t) := fun env S Q Q' E E' hq he q => h _ _ _ _ _ _ (fun c S1 q1 => hq _ _ q1) he q
theorem moVOf (h : MoE t) : MoE (vOf t) := fun env S Q Q' E E' hq he q => h _ _ _ _ _ _ (fun c S1 q1 => hq _ _ q1) he q
theorem moEIf (h : MoE t) (ha : MoE ta) (hb : MoE tb) : MoE (eIf t ta tb) := fun env S Q Q' E E' hq he q => h _ _ _ _ _ _ (fun c S1 q1 => by
  cases c
  · exact hb _ _ _ _ _ _ hq he q1
  · exact ha _ _ _ _ _ _ hq he q1) he q
theorem jw_and1 (ha : JT X W a t) : JW X W (.BoolOp .And [a] pos) t := ⟨pw_and1 ha.pt, ha.mo⟩
theorem jw_or1 (ha : JT X W a t) : JW X W (.BoolOp .Or [a] pos) t := ⟨pw_or1 ha.pt, ha.mo⟩
theorem jw_and (ha : JT X W a t) (hb : JW X W (.BoolOp .And (b :: rest) pos) u) : JW X W (.BoolOp .And (a :: b :: rest) pos) (tAndD t u) := by
  refine ⟨PW.imp (pw_and ha.pt hb.pw) fun σ H Q h => ?_, moAndD ha.mo hb.mo⟩
  obtain ⟨Z, env, S, re, rs, q⟩ := h
  refine LT.of ha.mo re rs q (fun c S1 H1 q1 a1 => ?_) fun x S1 c dx H1 q1 a1 r1 => q1 c dx H1 a1 r1
  cases c with
  | false => exact iteF (q1 H1 a1)
  | true => exact iteT (LT.of hb.mo (re.step a1.st rs) a1.rs q1 (fun c2 S2 H2 q2 a2 => q2 H2 (a1.trans a2)) fun x S2 c dx H2 q2 a2 r2 => q2 c dx H2 (a1.trans a2) r2)
theorem jw_or (ha : JT X W a t) (hb : JW X W (.BoolOp .Or (b :: rest) pos) u) : JW X W (.BoolOp .Or (a :: b :: rest) pos) (tOrD t u) := by
  refine ⟨PW.imp (pw_or ha.pt hb.pw) fun σ H Q h => ?_, moOrD ha.mo hb.mo⟩
  obtain ⟨Z, env, S, re, rs, q⟩ := h
  refine LT.of ha.mo re rs q (fun c S1 H1 q1 a1 => ?_) fun x S1 c dx H1 q1 a1 r1 => q1 c dx H1 a1 r1
  cases c with
  | true => exact iteT (q1 H1 a1)
  | false => exact iteF (LT.of hb.mo (re.step a1.st rs) a1.rs q1 (fun c2 S2 H2 q2 a2 => q2 H2 (a1.trans a2)) fun x S2 c dx H2 q2 a2 r2 => q2 c dx H2 (a1.trans a2) r2)
theorem jt_not (ha : JT X W a t) : JT X W (.UnaryOp .Not a pos) (tNotD t) := by
  refine ⟨PT.imp (pt_not ha.pt) fun σ H Q h => ?_, moNotD ha.mo⟩
  obtain ⟨Z, env, S, re, rs, q⟩ := h
  exact LT.of ha.mo re rs q (fun c S1 H1 q1 a1 => q1 H1 a1) fun x S1 c dx H1 q1 a1 r1 => q1 c dx H1 a1 r1
theorem je_ifExp {c : Expr} (hc : JT X W c t) (ha : JE X W a ta) (hb : JE X W b tb) : JE X W (.IfExp c a b pos) (eIf t ta tb) := by
  refine ⟨PE.imp (pe_ifExp hc.pt ha.pe hb.pe) fun σ H Q h => ?_, moEIf hc.mo ha.mo hb.mo⟩
  obtain ⟨Z, env, S, re, rs, q⟩ := h
  refine LT.of hc.mo re rs q (fun c S1 H1 q1 a1 => ?_) fun x S1 c dx H1 q1 a1 r1 => q1 c dx H1 a1 r1
  cases c with
  | true => exact iteT (LE.of ha.mo (re.step a1.st rs) a1.rs q1 (fun d S2 v H2 q2 a2 r2 => q2 v H2 (a1.trans a2) r2) fun x S2 c dx H2 q2 a2 r2 => q2 c dx H2 (a1.trans a2) r2)
  | false => exact iteF (LE.of hb.mo (re.step a1.st rs) a1.rs q1 (fun d S2 v H2 q2 a2 r2 => q2 v H2 (a1.trans a2) r2) fun x S2 c dx H2 q2 a2 r2 => q2 c dx H2 (a1.trans a2) r2)
/-! truths as values -/
theorem je_one {op : BoolOp} (h : JE X W a ta) : JE X W (.BoolOp op [a] pos) ta := ⟨pe_one h.pe, h.mo⟩
theorem je_and (ha : JE X W a ta) (hb : JE X W (.BoolOp .And (b :: rest) pos) tb) : JE X W (.BoolOp .And (a :: b :: rest) pos) (eIf (tbl ta) tb (cn (.bl false))) := by
  refine ⟨PE.imp (pe_and ha.pe hb.pe) fun σ H Q h => ?_, moEIf (moTbl ha.mo) hb.mo (moCn _)⟩
  obtain ⟨Z, env, S, re, rs, q⟩ := h
  refine LE.of ha.mo re rs q (fun d S1 x H1 q1 a1 r1 => ?_) fun x S1 c dx H1 q1 a1 r1 => q1 c dx H1 a1 r1
  cases d <;> first | exact q1.elim | skip
  rename_i c
  cases r1
  refine ⟨c, rfl, ?_⟩
  cases c with
  | true => exact iteT (LE.of hb.mo (re.step a1.st rs) a1.rs q1 (fun d S2 v H2 q2 a2 r2 => q2 v H2 (a1.trans a2) r2) fun x S2 c dx H2 q2 a2 r2 => q2 c dx H2 (a1.trans a2) r2)
  | false => exact iteF (q1 _ H1 a1 (.bl false))
def vNot (ta : TEd) : TEd := vOf (tNotD (tbl ta))
theorem je_not (ha : JE X W a ta) : JE X W (.UnaryOp .Not a pos) (vNot ta) := by
  refine ⟨PE.imp (pe_not ha.pe) fun σ H Q h => ?_, moVOf (moNotD (moTbl ha.mo))⟩
  obtain ⟨Z, env, S, re, rs, q⟩ := h
  refine LE.of ha.mo re rs q (fun d S1 x H1 q1 a1 r1 => ?_) fun x S1 c dx H1 q1 a1 r1 => q1 c dx H1 a1 r1
  cases d <;> first | exact q1.elim | skip
  rename_i c
  cases r1
  exact ⟨c, rfl, q1 _ H1 a1 (.bl _)⟩
end

/-! ### whole numbers -/
def CMul' (i j : Int) : Prop := i.natAbs.log2 + j.natAbs.log2 < 1000000
def CDiv' (j : Int) : Prop := j ≠ 0 ∧ j.natAbs.log2 < 9000
def fAdd : F2 := fun x y S Q => match x, y with
  | .int i, .int j => Q (.int (i + j)) S
  | .str i, .str j => i.length + j.length ≤ sizeLine ∧ Q (.str (i ++ j)) S
  | .tup a, .tup b => a.length + b.length ≤ sizeLine ∧ Q (.tup (a ++ b)) S
  | _, _ => False
def fSub : F2 := fun x y S Q => match x, y with
  | .int i, .int j => Q (.int (i - j)) S
  | _, _ => False
def fMul : F2 := fun x y S Q => match x, y with
  | .int i, .int j => CMul' i j ∧ Q (.int (i * j)) S
  | _, _ => False
def fDiv : F2 := fun x y S Q => match x, y with
  | .int i, .int j => CDiv' j ∧ Q (.int (i.fdiv j)) S
  | _, _ => False
def fMod : F2 := fun x y S Q => match x, y with
  | .int i, .int j => j ≠ 0 ∧ Q (.int (i.fmod j)) S
  | _, _ => False
def fPow : F2 := fun x y S Q => match x, y with
  | .int i, .int j => 0 ≤ j ∧ (Builtin.Int.intBits i : Int) * j ≤ 2 ^ 27 ∧ Q (.int (i ^ j.toNat)) S
  | _, _ => False
def fShl : F2 := fun x y S Q => match x, y with
  | .int i, .int j => (0 ≤ j ∧ j ≤ 1000000 ∧ i.natAbs < 2 ^ 64) ∧ Q (.int (i * 2 ^ j.toNat)) S
  | _, _ => False
def fLt : F2 := fun x y S Q => match x, y with
  | .int i, .int j => Q (.bl (decide (i < j))) S
  | _, _ => False
def fLe : F2 := fun x y S Q => match x, y with
  | .int i, .int j => Q (.bl (decide (i ≤ j))) S
  | _, _ => False
def fGt : F2 := fun x y S Q => match x, y with
  | .int i, .int j => Q (.bl (decide (j < i))) S
  | _, _ => False
def fGe : F2 := fun x y S Q => match x, y with
  | .int i, .int j => Q (.bl (decide (j ≤ i))) S
  | _, _ => False
theorem moAdd : MoF2 fAdd := by (intro x y S Q Q' h q; unfold fAdd at q ⊢; split at q <;> first | exact h _ _ q | exact ⟨q.1, h _ _ q.2⟩ | exact ⟨q.1, q.2.1, h _ _ q.2.2⟩ | exact q.elim)
theorem moSub : MoF2 fSub := by (intro x y S Q Q' h q; unfold fSub at q ⊢; split at q <;> first | exact h _ _ q | exact ⟨q.1, h _ _ q.2⟩ | exact ⟨q.1, q.2.1, h _ _ q.2.2⟩ | exact q.elim)
theorem moMul : MoF2 fMul := by (intro x y S Q Q' h q; unfold fMul at q ⊢; split at q <;> first | exact h _ _ q | exact ⟨q.1, h _ _ q.2⟩ | exact ⟨q.1, q.2.1, h _ _ q.2.2⟩ | exact q.elim)
theorem moDiv : MoF2 fDiv := by (intro x y S Q Q' h q; unfold fDiv at q ⊢; split at q <;> first | exact h _ _ q | exact ⟨q.1, h _ _ q.2⟩ | exact ⟨q.1, q.2.1, h _ _ q.2.2⟩ | exact q.elim)
theorem moMod : MoF2 fMod := by (intro x y S Q Q' h q; unfold fMod at q ⊢; split at q <;> first | exact h _ _ q | exact ⟨q.1, h _ _ q.2⟩ | exact ⟨q.1, q.2.1, h _ _ q.2.2⟩ | exact q.elim)
theorem moPow : MoF2 fPow := by (intro x y S Q Q' h q; unfold fPow at q ⊢; split at q <;> first | exact h _ _ q | exact ⟨q.1, h _ _ q.2⟩ | exact ⟨q.1, q.2.1, h _ _ q.2.2⟩ | exact q.elim)
theorem moShl : MoF2 fShl := by (intro x y S Q Q' h q; unfold fShl at q ⊢; split at q <;> first | exact h _ _ q | exact ⟨q.1, h _ _ q.2⟩ | exact ⟨q.1, q.2.1, h _ _ q.2.2⟩ | exact q.elim)
theorem moLt : MoF2 fLt := by (intro x y S Q Q' h q; unfold fLt at q ⊢; split at q <;> first | exact h _ _ q | exact ⟨q.1, h _ _ q.2⟩ | exact ⟨q.1, q.2.1, h _ _ q.2.2⟩ | exact q.elim)
theorem moLe : MoF2 fLe := by (intro x y S Q Q' h q; unfold fLe at q ⊢; split at q <;> first | exact h _ _ q | exact ⟨q.1, h _ _ q.2⟩ | exact ⟨q.1, q.2.1, h _ _ q.2.2⟩ | exact q.elim)
theorem moGt : MoF2 fGt := by (intro x y S Q Q' h q; unfold fGt at q ⊢; split at q <;> first | exact h _ _ q | exact ⟨q.1, h _ _ q.2⟩ | exact ⟨q.1, q.2.1, h _ _ q.2.2⟩ | exact q.elim)
theorem moGe : MoF2 fGe := by (intro x y S Q Q' h q; unfold fGe at q ⊢; split at q <;> first | exact h _ _ q | exact ⟨q.1, h _ _ q.2⟩ | exact ⟨q.1, q.2.1, h _ _ q.2.2⟩ | exact q.elim)
theorem RS.newN {K : Kz} {S : Sto} {H : Hp} {p : Addr} {o : HO} (rs : RS K S H) (hp : H p = none) : Aft K S H S (upd H p o) := by
  have st : Step S H S (upd H p o) := ⟨fun b u h n => ⟨n, by rw [upd_ne (ne_of_none h hp)]; exact h⟩, Kept.new hp⟩
  refine ⟨st, fun a es e => ?_, fun b hb => ?_⟩
  · obtain ⟨ws, q, r⟩ := rs.at_ a es e
    exact ⟨ws, by rw [upd_ne (ne_of_none q hp)]; exact q, r.map fun _ _ => RpL.step st rs _ _⟩
  · obtain ⟨n, vs, q⟩ := rs.hid b hb
    exact ⟨n, vs, by rw [upd_ne (ne_of_none q hp)]; exact q⟩
theorem RS.nz {K : Kz} {S : Sto} {H : Hp} {p : Addr} (rs : RS K S H) (hp : H p = none) : ¬ K.Z p := fun z => by
  obtain ⟨_, vs, q⟩ := rs.hid p z
  rw [hp] at q
  cases q
theorem Rp.newT {K : Kz} {S : Sto} {H : Hp} {ds : List D} {vs : List V} {p : Addr} (rs : RS K S H) (hp : H p = none) (r : RpL K S H ds vs) : Aft K S H S (upd H p (.tup vs)) ∧ Rp K S (upd H p (.tup vs)) (.tup ds) (.ref p) := by
  have a := rs.newN (o := .tup vs) hp
  exact ⟨a, .tup (SqT.of upd_same) (RpL.step a.st rs _ _ r)⟩
theorem Rp.newL {K : Kz} {S : Sto} {H : Hp} {ds : List D} {vs : List V} {p : Addr} (rs : RS K S H) (hp : H p = none) (r : RpL K S H ds vs) : Aft K S H S (upd H p (.lst vs)) ∧ Rp K S (upd H p (.lst vs)) (.lst ds) (.ref p) := by
  have a := rs.newN (o := .lst vs) hp
  exact ⟨a, .lst (.inl upd_same) (rs.free hp) (rs.nz hp) (RpL.step a.st rs _ _ r)⟩
/-- a grown list's items are told anew -/
theorem RS.tell {K : Kz} {S S' : Sto} {H H' : Hp} {ds : List D} {vs : List V} {p : Addr} (rs : RS K S H) (st : Step S H (sup S p ds) (upd H p (.lst vs))) (nz : ¬ K.Z p) (r : RpL K S H ds vs) : Aft K S H (sup S p ds) (upd H p (.lst vs)) := by
  refine ⟨st, fun a es e => ?_, fun b hb => ?_⟩
  · by_cases ha : a = p
    · subst ha
      rw [sup_same] at e
      cases e
      exact ⟨.lst vs, upd_same, RpL.step st rs _ _ r⟩
    · rw [sup_ne ha] at e
      obtain ⟨ws, q, r⟩ := rs.at_ a es e
      exact ⟨ws, by rw [upd_ne ha]; exact q, r.map fun _ _ => RpL.step st rs _ _⟩
  · have ne : b ≠ p := fun z => nz (z ▸ hb)
    obtain ⟨n, ws, q⟩ := rs.hid b hb
    exact ⟨by rw [sup_ne ne]; exact n, ws, by rw [upd_ne ne]; exact q⟩
/-- a list that is to be grown -/
theorem Rp.newR {K : Kz} {S : Sto} {H : Hp} {ds : List D} {vs : List V} {p : Addr} (rs : RS K S H) (hp : H p = none) (r : RpL K S H ds vs) : Aft K S H (sup S p ds) (upd H p (.lst vs)) :=
  rs.tell (S' := S) (H' := H) ⟨fun b o h n => ⟨by rw [sup_ne (ne_of_none h hp)]; exact n, by rw [upd_ne (ne_of_none h hp)]; exact h⟩, Kept.new hp⟩ (rs.nz hp) r
theorem RS.nzS {K : Kz} {S : Sto} {H : Hp} {p : Addr} {es : List D} (rs : RS K S H) (hp : S p = some es) : ¬ K.Z p := fun z => by
  have n := (rs.hid p z).1
  rw [hp] at n
  cases n
/-- a grown list is written -/
theorem Rp.putR {K : Kz} {S : Sto} {H : Hp} {ds es : List D} {vs : List V} {p : Addr} (rs : RS K S H) (hp : S p = some es) (r : RpL K S H ds vs) (hl : IsL H p := by exact ⟨_, by assumption⟩) : Aft K S H (sup S p ds) (upd H p (.lst vs)) := by
  have np : ∀ b, S b = none → b ≠ p := fun b n e => by rw [e, hp] at n; cases n
  exact rs.tell (S' := S) (H' := H) ⟨fun b o h n => ⟨by rw [sup_ne (np b n)]; exact n, by rw [upd_ne (np b n)]; exact h⟩, Kept.upd fun o' e => by obtain ⟨xs, q⟩ := hl; rw [q] at e; cases e; rfl⟩ (rs.nzS hp) r
/-- a grown list is grown no more -/
theorem Rp.frz {K : Kz} {S : Sto} {H : Hp} {ds : List D} {p : Addr} (rs : RS K S H) (hp : S p = some ds) (hl : IsL H p := by assumption) : Aft K S H (sdel S p) H ∧ Rp K (sdel S p) H (.lst ds) (.ref p) := by
  have np : ∀ b, S b = none → b ≠ p := fun b n e => by rw [e, hp] at n; cases n
  have st : Step S H (sdel S p) H := ⟨fun b o h n => ⟨by rw [sdel_ne (np b n)]; exact n, h⟩, .refl H⟩
  obtain ⟨vs, e, r⟩ := rs.atL p ds hp
  refine ⟨⟨st, fun a es q => ?_, fun b hb => ?_⟩, .lst (.inl e) sdel_same (rs.nzS hp) (RpL.step st rs _ _ r)⟩
  · by_cases ha : a = p
    · subst ha
      rw [sdel_same] at q
      cases q
    · rw [sdel_ne ha] at q
      obtain ⟨ws, z, r⟩ := rs.at_ a es q
      exact ⟨ws, z, r.map fun _ _ => RpL.step st rs _ _⟩
  · obtain ⟨n, q⟩ := rs.hid b hb
    exact ⟨by rw [sdel_ne (np b n)]; exact n, q⟩
section
variable {X : Cx}
theorem opD_add : OpD X (binaryOp .Add) fAdd := by
  refine ⟨moAdd, fun pins s σ H x y v u Q Z S dx dy I rx ry rs r1 r2 h => ?_⟩
  cases r1 with
  | int i =>
    cases r2 with
    | int j => exact op_add pins s σ H _ _ v u Q I rx ry ⟨i, j, rfl, rfl, h _ H (.refl rs) (.int _)⟩
    | _ => exact h.elim
  | str i =>
    cases r2 with
    | str j => exact op_add_str pins s σ H _ _ v u Q I rx ry ⟨i, j, rfl, rfl, h.1, h.2 _ H (.refl rs) (.str _)⟩
    | _ => exact h.elim
  | tup hs ha =>
    cases r2 with
    | tup hs2 ha2 =>
      rename_i a xs ds b ys es
      have l1 := ha.length
      have l2 := ha2.length
      refine op_catA pins s σ H _ _ v u Q I rx ry ⟨a, b, xs, ys, rfl, rfl, hs, hs2, by rw [← l1, ← l2]; exact h.1, fun e => ?_, fun _ e => ?_, fun _ _ p hp => ?_⟩
      · subst e
        cases ha
        exact h.2 _ H (.refl rs) (.tup hs2 ha2)
      · subst e
        cases ha2
        exact h.2 _ H (.refl rs) (by rw [List.append_nil]; exact .tup hs ha)
      · obtain ⟨a1, r⟩ := Rp.newT rs hp (ha.append ha2)
        exact h.2 _ _ a1 r
    | _ => exact h.elim
  | _ => cases r2 <;> exact h.elim
theorem opD_sub : OpD X (binaryOp .Sub) fSub := by
  refine ⟨moSub, fun pins s σ H x y v u Q Z S dx dy I rx ry rs r1 r2 h => ?_⟩
  cases r1 <;> cases r2 <;> first | exact h.elim | skip
  exact op_sub pins s σ H _ _ v u Q I rx ry ⟨_, _, rfl, rfl, h _ H (.refl rs) (.int _)⟩
theorem opD_mul : OpD X (binaryOp .Mult) fMul := by
  refine ⟨moMul, fun pins s σ H x y v u Q Z S dx dy I rx ry rs r1 r2 h => ?_⟩
  cases r1 <;> cases r2 <;> first | exact h.elim | skip
  exact op_mulW pins s σ H _ _ v u Q I rx ry ⟨_, _, rfl, rfl, h.1, h.2 _ H (.refl rs) (.int _)⟩
theorem opD_div : OpD X (binaryOp .FloorDiv) fDiv := by
  refine ⟨moDiv, fun pins s σ H x y v u Q Z S dx dy I rx ry rs r1 r2 h => ?_⟩
  cases r1 <;> cases r2 <;> first | exact h.elim | skip
  obtain ⟨t, rfl⟩ := rx
  obtain ⟨t', rfl⟩ := ry
  exact floordiv_int h.1.1 ⟨.int _, H, I.tok _, ⟨_, rfl⟩, h.2 _ H (.refl rs) (.int _)⟩ (.inl (PyProof.noPylong_of_log2 h.1.2))
theorem opD_mod : OpD X (binaryOp .Mod) fMod := by
  refine ⟨moMod, fun pins s σ H x y v u Q Z S dx dy I rx ry rs r1 r2 h => ?_⟩
  cases r1 <;> cases r2 <;> first | exact h.elim | skip
  exact op_modN pins s σ H _ _ v u Q I rx ry ⟨_, _, rfl, rfl, h.1, h.2 _ H (.refl rs) (.int _)⟩
theorem opD_pow : OpD X (binaryOp .Pow) fPow := by
  refine ⟨moPow, fun pins s σ H x y v u Q Z S dx dy I rx ry rs r1 r2 h => ?_⟩
  cases r1 <;> cases r2 <;> first | exact h.elim | skip
  obtain ⟨t, rfl⟩ := rx
  obtain ⟨t', rfl⟩ := ry
  exact pow_int h.1 h.2.1 ⟨.int _, H, I.tok _, ⟨_, rfl⟩, h.2.2 _ H (.refl rs) (.int _)⟩
theorem opD_shl : OpD X (binaryOp .LShift) fShl := by
  refine ⟨moShl, fun pins s σ H x y v u Q Z S dx dy I rx ry rs r1 r2 h => ?_⟩
  cases r1 <;> cases r2 <;> first | exact h.elim | skip
  exact op_shl pins s σ H _ _ v u Q I rx ry ⟨_, _, rfl, rfl, h.1, h.2 _ H (.refl rs) (.int _)⟩
theorem opD_lt : OpD X (compareOp .Lt) fLt := by
  refine ⟨moLt, fun pins s σ H x y v u Q Z S dx dy I rx ry rs r1 r2 h => ?_⟩
  cases r1 <;> cases r2 <;> first | exact h.elim | skip
  exact op_lt pins s σ H _ _ v u Q I rx ry ⟨_, _, rfl, rfl, h _ H (.refl rs) (.bl _)⟩
theorem opD_le : OpD X (compareOp .LtE) fLe := by
  refine ⟨moLe, fun pins s σ H x y v u Q Z S dx dy I rx ry rs r1 r2 h => ?_⟩
  cases r1 <;> cases r2 <;> first | exact h.elim | skip
  exact op_le pins s σ H _ _ v u Q I rx ry ⟨_, _, rfl, rfl, h _ H (.refl rs) (.bl _)⟩
theorem opD_gt : OpD X (compareOp .Gt) fGt := by
  refine ⟨moGt, fun pins s σ H x y v u Q Z S dx dy I rx ry rs r1 r2 h => ?_⟩
  cases r1 <;> cases r2 <;> first | exact h.elim | skip
  exact op_gt pins s σ H _ _ v u Q I rx ry ⟨_, _, rfl, rfl, h _ H (.refl rs) (.bl _)⟩
theorem opD_ge : OpD X (compareOp .GtE) fGe := by
  refine ⟨moGe, fun pins s σ H x y v u Q Z S dx dy I rx ry rs r1 r2 h => ?_⟩
  cases r1 <;> cases r2 <;> first | exact h.elim | skip
  exact op_ge pins s σ H _ _ v u Q I rx ry ⟨_, _, rfl, rfl, h _ H (.refl rs) (.bl _)⟩
end
end Bl

namespace Bl
open PySem PySem.Spec PyProof.Rows L2

/-! ### equality -/
mutual
def py : D → PyData
  | .non => .none
  | .bl b => .bool b
  | .int i => .int i
  | .str x => .str x
  | .tup ds => .tuple (pyL ds)
  | .lst ds => .list (pyL ds)
  | .ref _ => .none
  | .obj _ => .none
  | .own _ => .none
  | .ins _ _ _ => .none
def pyL : List D → List PyData
  | [] => []
  | d :: ds => py d :: pyL ds
end
mutual
/-- no address within -/
def pl : D → Bool
  | .non => true
  | .bl _ => true
  | .int _ => true
  | .str _ => true
  | .tup ds => plL ds
  | .lst ds => plL ds
  | .ref _ => false
  | .obj _ => false
  | .own _ => false
  | .ins _ _ _ => false
def plL : List D → Bool
  | [] => true
  | d :: ds => pl d && plL ds
end
section
variable {K : Kz} {S : Sto} {H : Hp}
mutual
theorem Rp.dp : ∀ (d : D) (v : V), pl d = true → Rp K S H d v → Dp K.K H v (py d)
  | .non, _, _, h => by cases h; exact .non
  | .bl b, _, _, h => by cases h; exact .bl b
  | .int i, _, _, h => by cases h; exact .int i
  | .str x, _, _, h => by cases h; exact .str x
  | .tup ds, _, p, h => by
    cases h with
    | tup hs ha => exact .tup hs (RpL.dp ds _ p ha)
  | .lst ds, _, p, h => by
    cases h with
    | lst hs hn hz ha => exact .lst (.inl hs) (RpL.dp ds _ p ha)
    | lstK hs ha => exact .lst (SqL.ofK hs) (RpL.dp ds _ p ha)
  | .ref _, _, p, _ => by cases p
  | .obj _, _, p, _ => by cases p
  | .own _, _, p, _ => by cases p
  | .ins _ _ _, _, p, _ => by cases p
theorem RpL.dp : ∀ (ds : List D) (vs : List V), plL ds = true → RpL K S H ds vs → DpAll K.K H vs (pyL ds)
  | [], _, _, h => by cases h; exact .nil
  | d :: ds, _, p, h => by
    have p' : (pl d && plL ds) = true := p
    rw [Bool.and_eq_true] at p'
    cases h with
    | cons h1 h2 => exact .cons (Rp.dp d _ p'.1 h1) (RpL.dp ds _ p'.2 h2)
end
end
/-- data that == takes -/
def okD (d : D) : Prop := pl d = true ∧ SeqAt.shaped (py d) = true
def eqD (x y : D) : Bool := PyData.eqv (py x) (py y)
def fEq : F2 := fun x y S Q => okD x ∧ okD y ∧ Q (.bl (eqD x y)) S
def fNe : F2 := fun x y S Q => okD x ∧ okD y ∧ Q (.bl (!eqD x y)) S
theorem moEq : MoF2 fEq := fun x y S Q Q' h q => ⟨q.1, q.2.1, h _ _ q.2.2⟩
theorem moNe : MoF2 fNe := fun x y S Q Q' h q => ⟨q.1, q.2.1, h _ _ q.2.2⟩
def isN : D → Bool
  | .non => true
  | _ => false
def fIs : F2 := fun x y S Q => match y with
  | .non => Q (.bl (isN x)) S
  | _ => False
def fIsNot : F2 := fun x y S Q => match y with
  | .non => Q (.bl (!isN x)) S
  | _ => False
theorem moIs : MoF2 fIs := fun x y S Q Q' h q => by
  unfold fIs at q ⊢
  split at q <;> first | exact h _ _ q | exact q
theorem moIsNot : MoF2 fIsNot := fun x y S Q Q' h q => by
  unfold fIsNot at q ⊢
  split at q <;> first | exact h _ _ q | exact q
/-- in a list, a tuple of data; a text in a text -/
def fIn (neg : Bool) : F2 := fun x y S Q => match y with
  | .lst ds => okD x ∧ okD (.lst ds) ∧ Q (.bl (xor neg (ds.any fun z => eqD z x))) S
  | .tup ds => okD x ∧ okD (.tup ds) ∧ Q (.bl (xor neg (ds.any fun z => eqD z x))) S
  | .str j => match x with
    | .str i => Q (.bl (xor neg (!(Builtin.Str.occurrences j i 0 j.length 1).isEmpty))) S
    | _ => False
  | _ => False
theorem moIn (neg : Bool) : MoF2 (fIn neg) := fun x y S Q Q' h q => by
  unfold fIn at q ⊢
  cases y <;> first
    | exact ⟨q.1, q.2.1, h _ _ q.2.2⟩
    | (cases x <;> first | exact h _ _ q | exact q)
    | exact q
section
variable {X : Cx}
theorem opD_eq {k : Nat} (hr : Room k X.A) : OpD X (compareOp .Eq) fEq := by
  refine ⟨moEq, fun pins s σ H x y v u Q Z S dx dy I rx ry rs r1 r2 h => ?_⟩
  exact op_eqD hr.units pins s σ H _ _ v u Q I rx ry ⟨_, _, Rp.dp _ _ h.1.1 r1, Rp.dp _ _ h.2.1.1 r2, h.1.2, h.2.1.2, h.2.2 _ H (.refl rs) (.bl _)⟩
theorem opD_ne {k : Nat} (hr : Room k X.A) : OpD X (compareOp .NotEq) fNe := by
  refine ⟨moNe, fun pins s σ H x y v u Q Z S dx dy I rx ry rs r1 r2 h => ?_⟩
  exact op_neD hr.units pins s σ H _ _ v u Q I rx ry ⟨_, _, Rp.dp _ _ h.1.1 r1, Rp.dp _ _ h.2.1.1 r2, h.1.2, h.2.1.2, h.2.2 _ H (.refl rs) (.bl _)⟩
theorem room65 {k : Nat} {A : Around} (hr : Room k A) : A.units + 65 < cLine := by have := hr.un; omega
end

/-! ### -a -/
def dNeg (t : TEd) : TEd := fun env S Q E => t env S (fun d S' => match d with | .int i => Q (.int (-i)) S' | _ => False) E
theorem moNeg {t : TEd} (h : MoE t) : MoE (dNeg t) := fun env S Q Q' E E' hq he q => h _ _ _ _ _ _ (fun d S1 q1 => by
  cases d <;> first | exact hq _ _ q1 | exact q1) he q
section
variable {X : Cx} {W : WX} {a b c : Expr} {ta tb tc : TEd} {pos : Pos}
theorem je_neg (ha : JE X W a ta) : JE X W (.UnaryOp .USub a pos) (dNeg ta) := by
  refine ⟨PE.imp (pe_un un_neg ha.pe) fun σ H Q h => ?_, moNeg ha.mo⟩
  obtain ⟨Z, env, S, re, rs, q⟩ := h
  refine LE.of ha.mo re rs q (fun d S1 x H1 q1 a1 r1 => ?_) fun x S1 c dx H1 q1 a1 r1 => q1 c dx H1 a1 r1
  cases d <;> first | exact q1.elim | skip
  cases r1
  exact ⟨_, rfl, q1 _ H1 a1 (.int _)⟩
/-- a op b op c, the two answers truths -/
def dChain (ta tb tc : TEd) (f g : F2) : TEd := fun env S Q E => ta env S (fun x S1 => tb env S1 (fun y S2 => f x y S2 (fun d S3 => match d with
  | .bl true => tc env S3 (fun z S4 => g y z S4 Q) E
  | .bl false => Q (.bl false) S3
  | _ => False)) E) E
theorem moChain {f g : F2} (ha : MoE ta) (hb : MoE tb) (hc : MoE tc) (hf : MoF2 f) (hg : MoF2 g) : MoE (dChain ta tb tc f g) := fun env S Q Q' E E' h he q =>
  ha _ _ _ _ _ _ (fun x S1 q1 => hb _ _ _ _ _ _ (fun y S2 q2 => hf _ _ _ _ _ (fun d S3 q3 => by
    cases d <;> first | exact q3 | skip
    rename_i b
    cases b
    · exact h _ _ q3
    · exact hc _ _ _ _ _ _ (fun z S4 q4 => hg _ _ _ _ _ h q4) he q3) q2) he q1) he q
/-- OpD's answer, as a relation of the layer's -/
def rD (K : PySem.W.Frag) (f : F2) : R2 := fun x y H Q => ∃ Z S dx dy, RS ⟨K, Z⟩ S H ∧ Rp ⟨K, Z⟩ S H dx x ∧ Rp ⟨K, Z⟩ S H dy y ∧ f dx dy S (PQ ⟨K, Z⟩ S H Q)
theorem OpD.op {g : Value → Value → Sem Value} {f : F2} (h : OpD X g f) : OpR X g (rD X.K f) := fun pins s σ H x y v u Q I rx ry ⟨Z, S, dx, dy, rs, r1, r2, q⟩ => h.run pins s σ H x y v u Q Z S dx dy I rx ry rs r1 r2 q
end

/-! ### argument lists, displays -/
def aNil : TAd := fun _ S Q _ => Q [] S
def aCons (t : TEd) (u : TAd) : TAd := fun env S Q E => t env S (fun d S1 => u env S1 (fun ds S2 => Q (d :: ds) S2) E) E
def dTup (t : TAd) : TEd := fun env S Q E => t env S (fun ds S1 => ds.length ≤ sizeLine ∧ Q (.tup ds) S1) E
def dLst (t : TAd) : TEd := fun env S Q E => t env S (fun ds S1 => ds.length ≤ sizeLine ∧ Q (.lst ds) S1) E
def dLstR (t : TAd) : TEd := fun env S Q E => t env S (fun ds S1 => ds.length ≤ sizeLine ∧ ∀ a, S1 a = none → Q (.ref a) (sup S1 a ds)) E
theorem moNilA : MoE aNil := fun env S Q Q' E E' h he q => h _ _ q
theorem moConsA {t : TEd} {u : TAd} (ht : MoE t) (hu : MoE u) : MoE (aCons t u) := fun env S Q Q' E E' h he q =>
  ht _ _ _ _ _ _ (fun d S1 q1 => hu _ _ _ _ _ _ (fun ds S2 q2 => h _ _ q2) he q1) he q
theorem moTup {t : TAd} (ht : MoE t) : MoE (dTup t) := fun env S Q Q' E E' h he q => ht _ _ _ _ _ _ (fun ds S1 q1 => ⟨q1.1, h _ _ q1.2⟩) he q
theorem moLst {t : TAd} (ht : MoE t) : MoE (dLst t) := fun env S Q Q' E E' h he q => ht _ _ _ _ _ _ (fun ds S1 q1 => ⟨q1.1, h _ _ q1.2⟩) he q
theorem moLstR {t : TAd} (ht : MoE t) : MoE (dLstR t) := fun env S Q Q' E E' h he q => ht _ _ _ _ _ _ (fun ds S1 q1 => ⟨q1.1, fun a n => h _ _ (q1.2 a n)⟩) he q
section
variable {X : Cx} {W : WX} {e : Expr} {es : List Expr} {t : TEd} {u : TAd} {pos : Pos}
theorem LA.cons {K : PySem.W.Frag} {t : TEd} {u : TAd} (ht : MoE t) (hu : MoE u) {σ : L2.St} {H : Hp} {Q : List V → Hp → Prop} (h : LA K W (aCons t u) σ H Q) : LE K W t σ H fun x H1 => LA K W u σ H1 fun xs H2 => Q (x :: xs) H2 := by
  obtain ⟨Z, env, S, re, rs, q⟩ := h
  refine LE.of ht re rs q (fun d S1 x H1 q1 a1 r1 => ?_) fun x S1 c dx H1 q1 a1 r1 => q1 c dx H1 a1 r1
  exact LA.of hu (re.step a1.st rs) a1.rs q1 (fun ds S2 vs H2 q2 a2 r2 => q2 _ H2 (a1.trans a2) (.cons (Rp.step a2.st a1.rs _ _ r1) r2)) fun x S2 c dx H2 q2 a2 r2 => q2 c dx H2 (a1.trans a2) r2
theorem ja_nil : JA X W [] aNil := ⟨PA.imp pa_nil fun σ H Q h => by
  obtain ⟨Z, env, S, re, rs, q⟩ := h
  exact q [] H (.refl rs) .nil, moNilA⟩
theorem ja_cons (ha : JE X W e t) (hr : JA X W es u) (hs : starEach (e :: es) X.env = (false, eval e X.env) :: starEach es X.env := by rfl) : JA X W (e :: es) (aCons t u) :=
  ⟨PA.imp (pa_cons ha.pe hr.pa hs) fun σ H Q h => LA.cons ha.mo hr.mo h, moConsA ha.mo hr.mo⟩
theorem je_tup {x1 : Nat} (h : JA X W es u) : JE X W (.Tuple es x1 pos) (dTup u) := by
  refine ⟨PE.imp (pe_tup h.pa) fun σ H Q q => ?_, moTup h.mo⟩
  obtain ⟨Z, env, S, re, rs, q⟩ := q
  refine LA.of h.mo re rs q (fun ds S1 vs H1 q1 a1 r1 => ⟨by rw [← r1.length]; exact q1.1, fun p hp => ?_⟩) fun x S1 c dx H1 q1 a1 r1 => q1 c dx H1 a1 r1
  obtain ⟨a2, r2⟩ := Rp.newT a1.rs hp r1
  exact q1.2 _ _ (a1.trans a2) r2
theorem je_lst (h : JA X W es u) : JE X W (.List es pos) (dLst u) := by
  refine ⟨PE.imp (pe_lst h.pa) fun σ H Q q => ?_, moLst h.mo⟩
  obtain ⟨Z, env, S, re, rs, q⟩ := q
  refine LA.of h.mo re rs q (fun ds S1 vs H1 q1 a1 r1 => ⟨by rw [← r1.length]; exact q1.1, fun p hp => ?_⟩) fun x S1 c dx H1 q1 a1 r1 => q1 c dx H1 a1 r1
  obtain ⟨a2, r2⟩ := Rp.newL a1.rs hp r1
  exact q1.2 _ _ (a1.trans a2) r2
/-- a list that is to be grown -/
theorem je_lstR (h : JA X W es u) : JE X W (.List es pos) (dLstR u) := by
  refine ⟨PE.imp (pe_lst h.pa) fun σ H Q q => ?_, moLstR h.mo⟩
  obtain ⟨Z, env, S, re, rs, q⟩ := q
  refine LA.of h.mo re rs q (fun ds S1 vs H1 q1 a1 r1 => ⟨by rw [← r1.length]; exact q1.1, fun p hp => ?_⟩) fun x S1 c dx H1 q1 a1 r1 => q1 c dx H1 a1 r1
  exact q1.2 p (a1.rs.free hp) _ _ (a1.trans (Rp.newR a1.rs hp r1)) (.ref p ⟨_, upd_same⟩)
end

/-! ### subscripts -/
def fIx : F2 := fun x y S Q => match y with
  | .int i => match x with
    | .tup ds => match atI ds i with | some d => Q d S | none => False
    | .lst ds => match atI ds i with | some d => Q d S | none => False
    | .ref a => match S a with
      | some ds => match atI ds i with | some d => Q d S | none => False
      | none => False
    | .str z => z.length ≤ sizeLine ∧ match atI z.cps.toList i with | some c => Q (.str ⟨#[c]⟩) S | none => False
    | _ => False
  | _ => False
theorem moIx : MoF2 fIx := fun x y S Q Q' h q => by
  unfold fIx at q ⊢
  cases y <;> first | exact q | skip
  cases x <;> first | exact q | skip
  · dsimp only at q ⊢; refine ⟨q.1, ?_⟩; have q2 := q.2; split at q2 <;> first | exact h _ _ q2 | exact q2
  · dsimp only at q ⊢; split at q <;> first | exact h _ _ q | exact q
  · dsimp only at q ⊢; split at q <;> first | exact h _ _ q | exact q
  · dsimp only at q ⊢
    split at q
    · split at q <;> first | exact h _ _ q | exact q
    · exact q
theorem atI_rp {K : Kz} {S : Sto} {H : Hp} {ds : List D} {vs : List V} {i : Int} {d : D} (r : RpL K S H ds vs) (e : atI ds i = some d) : ∃ v, atI vs i = some v ∧ Rp K S H d v := by
  unfold atI at e ⊢
  rw [← r.length]
  cases h : ixN ds.length i with
  | none => rw [h] at e; cases e
  | some j =>
    rw [h] at e
    exact r.get e
section
variable {X : Cx} {W : WX} {a b : Expr} {ta tb : TEd} {pos : Pos}
theorem ixD : IxR X (rD X.K fIx) := by
  intro value slice pins s σ H x y v u Q I rx ry h hs
  obtain ⟨Z, S, dx, dy, rs, r1, r2, q⟩ := h
  cases r2 <;> first | (unfold fIx at q; exact q.elim) | skip
  rename_i i
  cases r1 with
  | tup hq ha =>
    unfold fIx at q; dsimp only at q
    split at q <;> first | exact q.elim | skip
    rename_i d e
    obtain ⟨z, e2, r⟩ := atI_rp ha e
    exact ix_tup value slice pins s σ H _ _ v u Q I rx ry ⟨_, _, _, z, rfl, rfl, hq, e2, q z H (.refl rs) r⟩ hs
  | lst hq hn hz ha =>
    unfold fIx at q; dsimp only at q
    split at q <;> first | exact q.elim | skip
    rename_i d e
    obtain ⟨z, e2, r⟩ := atI_rp ha e
    exact ix_list value slice pins s σ H _ _ v u Q I rx ry ⟨_, _, _, z, rfl, rfl, .inl hq, e2, q z H (.refl rs) r⟩ hs
  | lstK hq ha =>
    unfold fIx at q; dsimp only at q
    split at q <;> first | exact q.elim | skip
    rename_i d e
    obtain ⟨z, e2, r⟩ := atI_rp ha e
    exact ix_list value slice pins s σ H _ _ v u Q I rx ry ⟨_, _, _, z, rfl, rfl, SqL.ofK hq, e2, q z H (.refl rs) r⟩ hs
  | ref a hL =>
    unfold fIx at q; dsimp only at q
    split at q <;> first | exact q.elim | skip
    rename_i ds e0
    split at q <;> first | exact q.elim | skip
    rename_i d e
    obtain ⟨vs, hl, ha⟩ := rs.atL a ds e0
    obtain ⟨z, e2, r⟩ := atI_rp ha e
    exact ix_list value slice pins s σ H _ _ v u Q I rx ry ⟨_, _, _, z, rfl, rfl, SqL.of hl, e2, q z H (.refl rs) r⟩ hs
  | str z =>
    unfold fIx at q; dsimp only at q
    obtain ⟨hz, q⟩ := q
    split at q <;> first | exact q.elim | skip
    rename_i c e
    exact ix_str value slice pins s σ H _ _ v u Q I rx ry ⟨z, i, c, rfl, rfl, hz, e, q _ H (.refl rs) (.str _)⟩ hs
  | _ => unfold fIx at q; exact q.elim
theorem je_ix (ha : JE X W a ta) (hb : JE X W b tb) (hs : PlainIx b := by exact fun _ _ => rfl) : JE X W (.Subscript a b pos) (dTwo ta tb fIx) :=
  ⟨PE.imp (pe_ix ixD ha.pe hb.pe hs) fun σ H Q h => two ha.mo hb.mo moIx h, moTwo ha.mo hb.mo moIx⟩
end

/-! ### slices -/
abbrev TOd := TX (Option Int)
def oNone : TOd := fun _ S Q _ => Q none S
def oSome (t : TEd) : TOd := fun env S Q E => t env S (fun d S1 => match d with | .int i => Q (some i) S1 | _ => False) E
theorem moONone : MoE oNone := fun env S Q Q' E E' h he q => h _ _ q
theorem moOSome {t : TEd} (ht : MoE t) : MoE (oSome t) := fun env S Q Q' E E' h he q => ht _ _ _ _ _ _ (fun d S1 q1 => by
  cases d <;> first | exact h _ _ q1 | exact q1) he q
def LO (K : PySem.W.Frag) (W : WX) (t : TOd) : TO := fun σ H Q => ∃ Z env S, RE ⟨K, Z⟩ S H env σ ∧ RS ⟨K, Z⟩ S H ∧ t env S (fun b S' => ∀ H', Aft ⟨K, Z⟩ S H S' H' → Q b H') (PX ⟨K, Z⟩ S H σ W)
theorem LO.of {K : Kz} {W : WX} {S : Sto} {H : Hp} {env : Ev} {σ : L2.St} {t : TOd} (mo : MoE t) (re : RE K S H env σ) (rs : RS K S H) {C : Option Int → Sto → Prop} {E : EK} {R : Option Int → Hp → Prop} (h : t env S C E)
    (hc : ∀ d S1 H1, C d S1 → Aft K S H S1 H1 → R d H1) (he : ∀ x S1 c dx H1, E x S1 → Aft K S H S1 H1 → RX K S1 H1 x c dx → W c dx σ H1) : LO K.K W t σ H R :=
  ⟨K.Z, env, S, re, rs, mo _ _ _ _ _ _ (fun d S1 q H1 a => hc d S1 H1 q a) (fun x S1 q c dx H1 a r => he x S1 c dx H1 q a r) h⟩
structure JO (X : Cx) (W : WX) (e : Option Expr) (t : TOd) : Prop where
  po : PO X e (LO X.K W t)
  mo : MoE t
def cutD (ds : List D) (lo hi : Option Int) : List D := (ds.drop (HT.sIx ds.length 0 lo)).take (HT.sIx ds.length ds.length hi - HT.sIx ds.length 0 lo)
def fSl (x : D) (lo hi : Option Int) (S : Sto) (Q : DK) : Prop := match x with
  | .tup ds => Q (.tup (cutD ds lo hi)) S
  | .lst ds => Q (.lst (cutD ds lo hi)) S
  | .ref a => match S a with
    | some ds => Q (.lst (cutD ds lo hi)) S
    | none => False
  | .str z => z.length ≤ sizeLine ∧ Q (.str (cutS z lo hi)) S
  | _ => False
theorem moFSl {x : D} {lo hi : Option Int} {S : Sto} {Q Q' : DK} (h : ∀ d S, Q d S → Q' d S) (q : fSl x lo hi S Q) : fSl x lo hi S Q' := by
  unfold fSl at q ⊢
  cases x <;> first
    | exact h _ _ q
    | exact ⟨q.1, h _ _ q.2⟩
    | (dsimp only at q ⊢; split at q <;> first | exact h _ _ q | exact q)
    | exact q
def dSl (t : TEd) (lo hi : TOd) : TEd := fun env S Q E => t env S (fun x S1 => lo env S1 (fun l S2 => hi env S2 (fun u S3 => fSl x l u S3 Q) E) E) E
theorem moSl {t : TEd} {lo hi : TOd} (ht : MoE t) (hl : MoE lo) (hh : MoE hi) : MoE (dSl t lo hi) := fun env S Q Q' E E' h he q =>
  ht _ _ _ _ _ _ (fun x S1 q1 => hl _ _ _ _ _ _ (fun l S2 q2 => hh _ _ _ _ _ _ (fun u S3 q3 => moFSl h q3) he q2) he q1) he q
theorem cut_rp {K : Kz} {S : Sto} {H : Hp} {ds : List D} {vs : List V} {lo hi : Option Int} (r : RpL K S H ds vs) : RpL K S H (cutD ds lo hi) (cutV vs lo hi) := by
  unfold cutD cutV
  rw [r.length]
  exact (r.drop _).take _
theorem cutV_all {vs : List V} {lo hi : Option Int} (h : HT.sIx vs.length 0 lo = 0 ∧ HT.sIx vs.length vs.length hi = vs.length) : cutV vs lo hi = vs := by
  unfold cutV
  rw [h.1, h.2]
  simp
section
variable {X : Cx} {W : WX} {e : Expr} {t : TEd} {lo hi : Option Expr} {tl th : TOd} {pos p2 : Pos}
theorem jo_none : JO X W none oNone := ⟨⟨fun pins s σ H Q I h => by
  obtain ⟨Z, env, S, re, rs, q⟩ := h
  exact po_none.run pins s σ H Q I (q H (.refl rs))⟩, moONone⟩
theorem jo_some (h : JE X W e t) : JO X W (some e) (oSome t) := ⟨⟨fun pins s σ H Q I h2 => by
  obtain ⟨Z, env, S, re, rs, q⟩ := h2
  refine (po_some h.pe).run pins s σ H Q I (LE.of h.mo re rs q (fun d S1 x H1 q1 a1 r1 => ?_) fun x S1 c dx H1 q1 a1 r1 => q1 c dx H1 a1 r1)
  cases d <;> first | exact q1.elim | skip
  cases r1
  exact ⟨_, rfl, q1 H1 a1⟩⟩, moOSome h.mo⟩
def rSlD (K : PySem.W.Frag) : V → Option Int → Option Int → Hp → VK → Prop := fun x lo hi H Q => ∃ Z S d, RS ⟨K, Z⟩ S H ∧ Rp ⟨K, Z⟩ S H d x ∧ fSl d lo hi S (PQ ⟨K, Z⟩ S H Q)
theorem slD : SlR X (rSlD X.K) := by
  intro pins s σ H x v vl vu lo hi sl Q I rx hs pl pu h
  obtain ⟨Z, S, d, rs, r, q⟩ := h
  cases r with
  | tup hq ha =>
    refine sl_tupA pins s σ H _ v vl vu lo hi sl Q I rx hs pl pu ⟨_, _, rfl, hq, fun e => ?_, fun _ p hp => ?_⟩
    · have z := q (.ref _) H (.refl rs) (.tup hq (by rw [← cutV_all e]; exact cut_rp ha))
      exact z
    · obtain ⟨a2, r2⟩ := Rp.newT rs hp (cut_rp (lo := lo) (hi := hi) ha)
      exact q _ _ a2 r2
  | lst hq hn hz ha => exact sl_list pins s σ H _ v vl vu lo hi sl Q I rx hs pl pu ⟨_, _, rfl, .inl hq, fun p hp => by
      obtain ⟨a2, r2⟩ := Rp.newL rs hp (cut_rp (lo := lo) (hi := hi) ha)
      exact q _ _ a2 r2⟩
  | lstK hq ha => exact sl_list pins s σ H _ v vl vu lo hi sl Q I rx hs pl pu ⟨_, _, rfl, SqL.ofK hq, fun p hp => by
      obtain ⟨a2, r2⟩ := Rp.newL rs hp (cut_rp (lo := lo) (hi := hi) ha)
      exact q _ _ a2 r2⟩
  | ref a hL =>
    unfold fSl at q; dsimp only at q
    split at q <;> first | exact q.elim | skip
    rename_i ds e0
    obtain ⟨vs, hl, ha⟩ := rs.atL a ds e0
    exact sl_list pins s σ H _ v vl vu lo hi sl Q I rx hs pl pu ⟨_, _, rfl, SqL.of hl, fun p hp => by
      obtain ⟨a2, r2⟩ := Rp.newL rs hp (cut_rp (lo := lo) (hi := hi) ha)
      exact q _ _ a2 r2⟩
  | str z => exact sl_str pins s σ H _ v vl vu lo hi sl Q I rx hs pl pu ⟨_, rfl, q.1, q.2 _ H (.refl rs) (.str _)⟩
  | _ => exact q.elim
theorem je_sl (ha : JE X W e t) (hl : JO X W lo tl) (hh : JO X W hi th) : JE X W (.Subscript e (.Slice lo hi none p2) pos) (dSl t tl th) := by
  refine ⟨PE.imp (pe_slice slD ha.pe hl.po hh.po) fun σ H Q h => ?_, moSl ha.mo hl.mo hh.mo⟩
  obtain ⟨Z, env, S, re, rs, q⟩ := h
  refine LE.of ha.mo re rs q (fun d S1 x H1 q1 a1 r1 => ?_) fun x S1 c dx H1 q1 a1 r1 => q1 c dx H1 a1 r1
  refine LO.of hl.mo (re.step a1.st rs) a1.rs q1 (fun l S2 H2 q2 a2 => ?_) fun x S2 c dx H2 q2 a2 r2 => q2 c dx H2 (a1.trans a2) r2
  have a12 := a1.trans a2
  refine LO.of hh.mo (re.step a12.st rs) a2.rs q2 (fun u S3 H3 q3 a3 => ?_) fun x S3 c dx H3 q3 a3 r3 => q3 c dx H3 (a12.trans a3) r3
  exact ⟨Z, S3, d, a3.rs, Rp.step a3.st a2.rs _ _ (Rp.step a2.st a1.rs _ _ r1), moFSl (fun d S4 q4 => PQ.after (a12.trans a3) q4) q3⟩
end
end Bl

namespace Bl
open PySem PySem.Spec PyProof.Rows L2

/-! ### defs -/
/-- a def's promise, by data -/
def LSp (K : PySem.W.Frag) (n : Nat) (m : TFd) : Sp := fun vs H Q E => ∃ Z ds S, ds.length = n ∧ RpL ⟨K, Z⟩ S H ds vs ∧ RS ⟨K, Z⟩ S H ∧ m ds S (PQ ⟨K, Z⟩ S H Q) fun x S' => ∀ c dx H', Aft ⟨K, Z⟩ S H S' H' → RX ⟨K, Z⟩ S' H' x c dx → E c dx H'
/-- the def x, called by np places and the keywords ks; gD puts the values into the parameters' order -/
structure JF (P : Program) (w : World) (K : PySem.W.Frag) (mg : Str → Option Value) (base : Heap) (x : Str) (np : Nat) (ks : List Str) (gD : List D → List D → List D) (k : Nat) (m : TFd) : Prop where
  ex : ∃ (f : Addr) (fd : FuncData) (ps : List Str) (g : List Value → List Value → List Value) (gV : List V → List V → List V), mg x = some (.ref f) ∧ PySem.W.keepIn K (.ref f) = true ∧ FnOk P w K mg base (L2.CX P w) k f fd ps (LSp K ps.length m) ∧ KBn K fd ps np ks g gV ∧
    ∀ (Z : Addr → Prop) S H ds zs vs ws, RpL ⟨K, Z⟩ S H ds vs → RpL ⟨K, Z⟩ S H zs ws → ds.length = np → zs.length = ks.length → RpL ⟨K, Z⟩ S H (gD ds zs) (gV vs ws) ∧ (gD ds zs).length = ps.length
  mo : MoF m
/-- a call: the values by places, then those by keywords -/
def dCall (m : TFd) (np nk : Nat) (gD : List D → List D → List D) (ta tk : TAd) : TEd := fun env S Q E => ta env S (fun ds S1 => tk env S1 (fun zs S2 => ds.length = np ∧ zs.length = nk ∧ m (gD ds zs) S2 Q E) E) E
theorem moCall {m : TFd} {np nk : Nat} {gD : List D → List D → List D} {ta tk : TAd} (hm : MoF m) (ha : MoE ta) (hk : MoE tk) : MoE (dCall m np nk gD ta tk) := fun env S Q Q' E E' h he q =>
  ha _ _ _ _ _ _ (fun ds S1 q1 => hk _ _ _ _ _ _ (fun zs S2 q2 => ⟨q2.1, q2.2.1, hm _ _ _ _ _ _ h he q2.2.2⟩) he q1) he q
structure JK (X : Cx) (W : WX) (kws : List Keyword) (t : TAd) : Prop where
  pk : PK X kws (LA X.K W t)
  mo : MoE t
section
variable {X : Cx} {W : WX} {e : Expr} {es : List Expr} {t : TEd} {u : TAd} {pos kpos : Pos} {nm : Option Str} {kws : List Keyword}
theorem run_fnG {k np : Nat} {f : Addr} {fd : FuncData} {ps ks : List Str} {sp : Sp} {E : XK} {g : List Value → List Value → List Value} {gV : List V → List V → List V} {pins : List (Addr × Obj)} {σ : L2.St} {H : Hp} {s : Shared} {Q : VK} {us ws : List Value} {vs zs : List V}
    (F : FnOk X.prog X.w X.K X.mg X.base (L2.CX X.prog X.w) k f fd ps sp) (hr : Room k X.A) (hb : KBn X.K fd ps np ks g gV) (hx : PassesAt (L2.CX X.prog X.w) X σ E)
    (I : Inv X pins σ H s) (r : Vals vs us) (rz : Vals zs ws) (l1 : vs.length = np) (l2 : zs.length = ks.length) (h : sp (gV vs zs) H Q E) : wpAny (model X.prog X.w) X.A (call (.ref f) us (ks.zip ws)) (EP X pins σ Q) X.xe s := by
  refine wpAny_call (codeAny_mono (F.run X.A X.stack s H ⟨us, ks.zip ws⟩ (g us ws) (gV vs zs) Q E hr I.env0 (hb.to s us ws I.kIn (r.length.symm.trans l1) (rz.length.symm.trans l2)) (hb.rel r rz) h) fun r s' hq => ?_)
  cases r with
  | error e => exact hx pins H s e s' I hq
  | ok fl =>
    cases fl with
    | ret u => exact I.after hq
    | next => exact False.elim hq
    | brk => exact False.elim hq
    | cont => exact False.elim hq
variable {P : Program} {w : World} {K : PySem.W.Frag} {mg : Str → Option Value} {base : Heap} {N : List Str} {sc : Scope} {vw : Vw} {k j : Nat} {x : Str} {np : Nat} {ks : List Str} {gD : List D → List D → List D} {m : TFd} {tk : TAd} {p : Pos}
/-- the callee's promise from the arguments -/
theorem call_sp {K : PySem.W.Frag} {Z : Addr → Prop} {S S2 : Sto} {H H2 : Hp} {σ : L2.St} {Q : VK} {n : Nat} {ds : List D} {vs : List V} (hm : MoF m) (a2 : Aft ⟨K, Z⟩ S H S2 H2) (r : RpL ⟨K, Z⟩ S2 H2 ds vs) (hl : ds.length = n) (h : m ds S2 (PQ ⟨K, Z⟩ S H Q) (PX ⟨K, Z⟩ S H σ W)) :
    LSp K n m vs H2 Q (WE W σ) :=
  ⟨Z, ds, S2, hl, r, a2.rs, hm _ _ _ _ _ _ (fun d S3 q => PQ.after a2 q) (fun x S3 q c dx H' a3 rx => q c dx H' (a2.trans a3) rx) h⟩
/-- f(e, ..) -/
theorem je_call (c : JC P w K mg base N sc vw k X W) (F : JF P w K mg base x np [] gD j m) (hj : j ≤ k) (hx : x ∈ vw.gs) (ha : JA X W (e :: es) u) (he : starEach (e :: es) X.env = (false, eval e X.env) :: starEach es X.env := by rfl)
    (hpl : (backTo pos (starEach es X.env)).any (·.1) = false := by rfl) : JE X W (.Call (.Name x p) (e :: es) [] pos) (dCall m np 0 gD u aNil) := by
  obtain ⟨rfl, rfl, rfl, rfl, rfl, rfl, rfl⟩ : X.prog = P ∧ X.w = w ∧ X.K = K ∧ X.mg = mg ∧ X.base = base ∧ X.N = N ∧ X.env.scope = sc := ⟨c.prog, c.ww, c.kk, c.gg, c.bb, c.nn, c.ss⟩
  obtain ⟨f, fd, ps, g, gV, hm, hkp, FF, hb, rel⟩ := F.ex
  refine ⟨⟨fun pins s σ H Q I h => ?_⟩, moCall F.mo ha.mo moNilA⟩
  obtain ⟨Z, env, S, re, rs, q⟩ := h
  refine wpAny_Call_Name_kw (ld_glob I (c.gl hx) hm ?_ (c.sC.gl x hx).2.2)
  refine PySem.W.callWith_K (h₀ := X.base) I.ok.mod.kin hkp (thn (ha.pa.run pos pins s σ H _ I (LA.of ha.mo re rs q (R := fun vs H1 => ∃ ds S1, Aft ⟨X.K, Z⟩ S H S1 H1 ∧ RpL ⟨X.K, Z⟩ S1 H1 ds vs ∧ ds.length = np ∧ ([] : List D).length = 0 ∧ m (gD ds []) S1 _ _) (fun ds S1 vs H1 q1 a1 r1 => ⟨ds, S1, a1, r1, q1⟩) fun x S1 c dx H1 q1 a1 r1 => q1 c dx H1 a1 r1)) fun us s1 ⟨vs, H1, I1, r, ds, S1, a1, r1, l1, l2, q1⟩ => ⟨I1.kIn, ?_⟩) he hpl
  obtain ⟨rr, ll⟩ := rel Z S1 H1 ds [] vs [] r1 .nil l1 rfl
  exact run_fnG (ws := []) (zs := []) FF (c.room.mono hj) hb (passAt c.tk σ) I1 r .nil (by rw [← r1.length]; exact l1) rfl (call_sp F.mo a1 rr ll q1)
end

/-! ### what is built in -/
abbrev GB := List D → Sto → DK → Prop
def rC (K : PySem.W.Frag) (g : GB) : List V → Hp → VK → Prop := fun vs H Q => ∃ Z S ds, RS ⟨K, Z⟩ S H ∧ RpL ⟨K, Z⟩ S H ds vs ∧ g ds S (PQ ⟨K, Z⟩ S H Q)
structure CallD (X : Cx) (f : Value) (g : GB) : Prop where
  mo : ∀ ds S (Q Q' : DK), (∀ d S, Q d S → Q' d S) → g ds S Q → g ds S Q'
  run : CallR X f (rC X.K g)
def dB (g : GB) (ta : TAd) : TEd := fun env S Q E => ta env S (fun ds S1 => g ds S1 Q) E
section
variable {X : Cx} {W : WX} {e : Expr} {es : List Expr} {t : TEd} {u : TAd} {pos p : Pos} {x : Str} {g : GB} {id T : String}
variable {P : Program} {w : World} {K : PySem.W.Frag} {mg : Str → Option Value} {base : Heap} {N : List Str} {sc : Scope} {vw : Vw} {k : Nat}
theorem dB_imp {K : PySem.W.Frag} {g : GB} (hg : ∀ ds S (Q Q' : DK), (∀ d S, Q d S → Q' d S) → g ds S Q → g ds S Q') (hu : MoE u) {σ : L2.St} {H : Hp} {Q : VK} (h : LE K W (dB g u) σ H Q) : tCB (rC K g) (LA K W u) σ H Q := by
  obtain ⟨Z, env, S, re, rs, q⟩ := h
  refine LA.of hu re rs q (fun ds S1 vs H1 q1 a1 r1 => ?_) fun x S1 c dx H1 q1 a1 r1 => q1 c dx H1 a1 r1
  exact ⟨Z, S1, ds, a1.rs, r1, hg _ _ _ _ (fun d S2 q2 => PQ.after a1 q2) q1⟩
theorem moB {g : GB} (hg : ∀ ds S (Q Q' : DK), (∀ d S, Q d S → Q' d S) → g ds S Q → g ds S Q') (hu : MoE u) : MoE (dB g u) := fun env S Q Q' E E' h he q => hu _ _ _ _ _ _ (fun ds S1 q1 => hg _ _ _ _ h q1) he q
theorem je_callB (c : JC P w K mg base N sc vw k X W) (hc : CallD X (.builtin id) g) (hx : x ∈ vw.gs) (hm : mg x = none) (hv : bootBuiltins x = some (.builtin id)) (ha : JA X W (e :: es) u) (he : starEach (e :: es) X.env = (false, eval e X.env) :: starEach es X.env := by rfl)
    (hpl : (backTo pos (starEach es X.env)).any (·.1) = false := by rfl) : JE X W (.Call (.Name x p) (e :: es) [] pos) (dB g u) :=
  ⟨PE.imp (pe_callB hc.run (c.gl hx) (by rw [c.gg]; exact hm) hv ha.pa (c.sC.gl x hx).2.1 (c.sC.gl x hx).2.2 he hpl) fun σ H Q h => dB_imp hc.mo ha.mo h, moB hc.mo ha.mo⟩
theorem je_callTy (c : JC P w K mg base N sc vw k X W) (hc : CallD X (.type T) g) (hx : x ∈ vw.gs) (hm : mg x = none) (hv : bootBuiltins x = some (.type T)) (ha : JA X W (e :: es) u) (he : starEach (e :: es) X.env = (false, eval e X.env) :: starEach es X.env := by rfl)
    (hpl : (backTo pos (starEach es X.env)).any (·.1) = false := by rfl) : JE X W (.Call (.Name x p) (e :: es) [] pos) (dB g u) :=
  ⟨PE.imp (pe_callTy hc.run (c.gl hx) (by rw [c.gg]; exact hm) hv ha.pa (c.sC.gl x hx).2.1 (c.sC.gl x hx).2.2 he hpl) fun σ H Q h => dB_imp hc.mo ha.mo h, moB hc.mo ha.mo⟩
end
def bAbs : GB := fun ds S Q => match ds with
  | [.int i] => Q (.int (if i < 0 then -i else i)) S
  | _ => False
def bLen : GB := fun ds S Q => match ds with
  | [.tup xs] => Q (.int xs.length) S
  | [.lst xs] => Q (.int xs.length) S
  | [.ref a] => match S a with | some xs => Q (.int xs.length) S | none => False
  | [.str x] => x.length ≤ sizeLine ∧ Q (.int x.length) S
  | _ => False
def bMax : GB := fun ds S Q => match ds with
  | [.int i, .int j] => Q (.int (if j > i then j else i)) S
  | _ => False
def bMin : GB := fun ds S Q => match ds with
  | [.int i, .int j] => Q (.int (if j < i then j else i)) S
  | _ => False
def bInt : GB := fun ds S Q => match ds with
  | [.int i] => Q (.int i) S
  | [.bl b] => Q (.int (if b then 1 else 0)) S
  | _ => False
def bTup : GB := fun ds S Q => match ds with
  | [.tup xs] => Q (.tup xs) S
  | [.lst xs] => Q (.tup xs) S
  | [.ref a] => match S a with | some xs => Q (.tup xs) S | none => False
  | _ => False
def bLst : GB := fun ds S Q => match ds with
  | [.tup xs] => Q (.lst xs) S
  | [.lst xs] => Q (.lst xs) S
  | [.ref a] => match S a with | some xs => Q (.lst xs) S | none => False
  | _ => False
def blsOf : List D → Option (List Bool)
  | [] => some []
  | .bl b :: ds => (blsOf ds).map (b :: ·)
  | _ => none
def bAll : GB := fun ds S Q => match ds with
  | [.lst xs] => match blsOf xs with | some bs => Q (.bl (bs.all id)) S | none => False
  | _ => False
section
variable {X : Cx}
theorem RpL.one {K : Kz} {S : Sto} {H : Hp} {d : D} {vs : List V} (h : RpL K S H [d] vs) : ∃ v, vs = [v] ∧ Rp K S H d v := by
  cases h with
  | cons a b => cases b; exact ⟨_, rfl, a⟩
theorem RpL.two {K : Kz} {S : Sto} {H : Hp} {d e : D} {vs : List V} (h : RpL K S H [d, e] vs) : ∃ v w, vs = [v, w] ∧ Rp K S H d v ∧ Rp K S H e w := by
  cases h with
  | cons a b =>
    cases b with
    | cons b c => cases c; exact ⟨_, _, rfl, a, b⟩
/-- a datum that is a list -/
theorem Rp.sqL {K : Kz} {S : Sto} {H : Hp} {xs : List D} {v : V} (h : Rp K S H (.lst xs) v) : ∃ a vs, v = .ref a ∧ SqL K.K H a vs ∧ RpL K S H xs vs := by
  cases h with
  | lst h1 h2 h3 h4 => exact ⟨_, _, rfl, .inl h1, h4⟩
  | lstK h1 h2 => exact ⟨_, _, rfl, SqL.ofK h1, h2⟩
theorem Rp.sqT {K : Kz} {S : Sto} {H : Hp} {xs : List D} {v : V} (h : Rp K S H (.tup xs) v) : ∃ a vs, v = .ref a ∧ SqT K.K H a vs ∧ RpL K S H xs vs := by
  cases h with
  | tup h1 h2 => exact ⟨_, _, rfl, h1, h2⟩
theorem Rp.sqR {K : Kz} {S : Sto} {H : Hp} {a : Addr} {xs : List D} (rs : RS K S H) (e : S a = some xs) (hL : IsL H a := by assumption) : ∃ vs, SqL K.K H a vs ∧ RpL K S H xs vs := by
  obtain ⟨vs, h1, h2⟩ := rs.atL a xs e
  exact ⟨vs, SqL.of h1, h2⟩
theorem cd_abs : CallD X (.builtin "abs") bAbs := by
  refine ⟨by (intro ds S Q Q' h q; unfold bAbs at q ⊢; split at q <;> first | exact h _ _ q | exact ⟨q.1, h _ _ q.2⟩ | exact q.elim | ((try dsimp only at q ⊢); split at q <;> first | exact h _ _ q | exact q.elim)), fun pins s σ H xs us Q I rv h => ?_⟩
  obtain ⟨Z, S, ds, rs, r, q⟩ := h
  unfold bAbs at q
  split at q <;> first | exact q.elim | skip
  obtain ⟨v, rfl, r1⟩ := r.one
  cases r1
  exact call_abs pins s σ H _ us Q I rv ⟨_, rfl, q _ H (.refl rs) (.int _)⟩
theorem cd_min (hc : X.calm = true) : CallD X (.builtin "min") bMin := by
  refine ⟨by (intro ds S Q Q' h q; unfold bMin at q ⊢; split at q <;> first | exact h _ _ q | exact ⟨q.1, h _ _ q.2⟩ | exact q.elim | ((try dsimp only at q ⊢); split at q <;> first | exact h _ _ q | exact q.elim)), fun pins s σ H xs us Q I rv h => ?_⟩
  obtain ⟨Z, S, ds, rs, r, q⟩ := h
  unfold bMin at q
  split at q <;> first | exact q.elim | skip
  obtain ⟨v, v2, rfl, r1, r2⟩ := r.two
  cases r1
  cases r2
  exact call_min2 hc pins s σ H _ us Q I rv ⟨_, _, rfl, q _ H (.refl rs) (.int _)⟩
theorem cd_int : CallD X (.type "int") bInt := by
  refine ⟨by (intro ds S Q Q' h q; unfold bInt at q ⊢; split at q <;> first | exact h _ _ q | exact ⟨q.1, h _ _ q.2⟩ | exact q.elim | ((try dsimp only at q ⊢); split at q <;> first | exact h _ _ q | exact q.elim)), fun pins s σ H xs us Q I rv h => ?_⟩
  obtain ⟨Z, S, ds, rs, r, q⟩ := h
  unfold bInt at q
  split at q <;> first | exact q.elim | skip
  · obtain ⟨v, rfl, r1⟩ := r.one
    cases r1
    exact call_int1 pins s σ H _ us Q I rv (.inl ⟨_, rfl, q _ H (.refl rs) (.int _)⟩)
  · obtain ⟨v, rfl, r1⟩ := r.one
    cases r1
    exact call_int1 pins s σ H _ us Q I rv (.inr ⟨_, rfl, q _ H (.refl rs) (.int _)⟩)
theorem cd_len : CallD X (.builtin "len") bLen := by
  refine ⟨by (intro ds S Q Q' h q; unfold bLen at q ⊢; split at q <;> first | exact h _ _ q | exact ⟨q.1, h _ _ q.2⟩ | exact q.elim | ((try dsimp only at q ⊢); split at q <;> first | exact h _ _ q | exact q.elim)), fun pins s σ H xs us Q I rv h => ?_⟩
  obtain ⟨Z, S, ds, rs, r, q⟩ := h
  unfold bLen at q
  split at q <;> first | exact q.elim | skip
  · obtain ⟨v, rfl, r1⟩ := r.one
    obtain ⟨a, vs, rfl, hs, hl⟩ := r1.sqT
    exact call_len_seq pins s σ H _ us Q I rv ⟨a, vs, rfl, .inr hs, by rw [← hl.length]; exact q _ H (.refl rs) (.int _)⟩
  · obtain ⟨v, rfl, r1⟩ := r.one
    obtain ⟨a, vs, rfl, hs, hl⟩ := r1.sqL
    exact call_len_seq pins s σ H _ us Q I rv ⟨a, vs, rfl, .inl hs, by rw [← hl.length]; exact q _ H (.refl rs) (.int _)⟩
  · obtain ⟨v, rfl, r1⟩ := r.one
    cases r1
    try dsimp only at q
    split at q <;> first | exact q.elim | skip
    rename_i e
    obtain ⟨vs, hs, hl⟩ := Rp.sqR rs e
    exact call_len_seq pins s σ H _ us Q I rv ⟨_, vs, rfl, .inl hs, by rw [← hl.length]; exact q _ H (.refl rs) (.int _)⟩
  · obtain ⟨v, rfl, r1⟩ := r.one
    cases r1
    exact call_len_str pins s σ H _ us Q I rv ⟨_, rfl, q.1, q.2 _ H (.refl rs) (.int _)⟩
theorem cd_tup : CallD X (.type "tuple") bTup := by
  refine ⟨by (intro ds S Q Q' h q; unfold bTup at q ⊢; split at q <;> first | exact h _ _ q | exact ⟨q.1, h _ _ q.2⟩ | exact q.elim | ((try dsimp only at q ⊢); split at q <;> first | exact h _ _ q | exact q.elim)), fun pins s σ H xs us Q I rv h => ?_⟩
  obtain ⟨Z, S, ds, rs, r, q⟩ := h
  unfold bTup at q
  split at q <;> first | exact q.elim | skip
  · obtain ⟨v, rfl, r1⟩ := r.one
    obtain ⟨a, vs, rfl, hs, hl⟩ := r1.sqT
    exact call_tuple_of pins s σ H _ us Q I rv ⟨a, vs, rfl, .inr ⟨hs, q _ H (.refl rs) r1⟩⟩
  · obtain ⟨v, rfl, r1⟩ := r.one
    obtain ⟨a, vs, rfl, hs, hl⟩ := r1.sqL
    exact call_tuple_of pins s σ H _ us Q I rv ⟨a, vs, rfl, .inl ⟨hs, fun l hn => by
      obtain ⟨a2, r2⟩ := Rp.newT rs hn hl
      exact q _ _ a2 r2⟩⟩
  · obtain ⟨v, rfl, r1⟩ := r.one
    cases r1
    try dsimp only at q
    split at q <;> first | exact q.elim | skip
    rename_i e
    obtain ⟨vs, hs, hl⟩ := Rp.sqR rs e
    exact call_tuple_of pins s σ H _ us Q I rv ⟨_, vs, rfl, .inl ⟨hs, fun l hn => by
      obtain ⟨a2, r2⟩ := Rp.newT rs hn hl
      exact q _ _ a2 r2⟩⟩
theorem cd_lst : CallD X (.type "list") bLst := by
  refine ⟨by (intro ds S Q Q' h q; unfold bLst at q ⊢; split at q <;> first | exact h _ _ q | exact ⟨q.1, h _ _ q.2⟩ | exact q.elim | ((try dsimp only at q ⊢); split at q <;> first | exact h _ _ q | exact q.elim)), fun pins s σ H xs us Q I rv h => ?_⟩
  obtain ⟨Z, S, ds, rs, r, q⟩ := h
  unfold bLst at q
  split at q <;> first | exact q.elim | skip
  · obtain ⟨v, rfl, r1⟩ := r.one
    obtain ⟨a, vs, rfl, hs, hl⟩ := r1.sqT
    exact call_list_of pins s σ H _ us Q I rv ⟨a, vs, rfl, .inr hs, fun l hn => by
      obtain ⟨a2, r2⟩ := Rp.newL rs hn hl
      exact q _ _ a2 r2⟩
  · obtain ⟨v, rfl, r1⟩ := r.one
    obtain ⟨a, vs, rfl, hs, hl⟩ := r1.sqL
    exact call_list_of pins s σ H _ us Q I rv ⟨a, vs, rfl, .inl hs, fun l hn => by
      obtain ⟨a2, r2⟩ := Rp.newL rs hn hl
      exact q _ _ a2 r2⟩
  · obtain ⟨v, rfl, r1⟩ := r.one
    cases r1
    try dsimp only at q
    split at q <;> first | exact q.elim | skip
    rename_i e
    obtain ⟨vs, hs, hl⟩ := Rp.sqR rs e
    exact call_list_of pins s σ H _ us Q I rv ⟨_, vs, rfl, .inl hs, fun l hn => by
      obtain ⟨a2, r2⟩ := Rp.newL rs hn hl
      exact q _ _ a2 r2⟩
theorem bls_rp {K : Kz} {S : Sto} {H : Hp} : ∀ {xs : List D} {bs : List Bool} {vs : List V}, RpL K S H xs vs → blsOf xs = some bs → vs = bs.map V.bl
  | [], _, _, h, e => by
    cases h
    cases e
    rfl
  | d :: ds, bs, _, h, e => by
    cases h with
    | cons h1 h2 =>
      cases d <;> first | cases e | skip
      rename_i b
      unfold blsOf at e
      cases e2 : blsOf ds with
      | none => rw [e2] at e; cases e
      | some cs =>
        rw [e2] at e
        cases e
        cases h1
        rw [bls_rp h2 e2]
        rfl
theorem cd_all (hc : X.calm = true) : CallD X (.builtin "all") bAll := by
  refine ⟨by (intro ds S Q Q' h q; unfold bAll at q ⊢; split at q <;> first | exact h _ _ q | exact ⟨q.1, h _ _ q.2⟩ | exact q.elim | ((try dsimp only at q ⊢); split at q <;> first | exact h _ _ q | exact q.elim)), fun pins s σ H xs us Q I rv h => ?_⟩
  obtain ⟨Z, S, ds, rs, r, q⟩ := h
  unfold bAll at q
  split at q <;> first | exact q.elim | skip
  obtain ⟨v, rfl, r1⟩ := r.one
  obtain ⟨a, vs, rfl, hs, hl⟩ := r1.sqL
  split at q <;> first | exact q.elim | skip
  rename_i bs e
  exact cr_all hc pins s σ H _ us Q I rv ⟨a, bs, rfl, by rw [← bls_rp hl e]; exact hs, q _ H (.refl rs) (.bl _)⟩
end

/-! ### isinstance, a built-in class -/
def tyN : D → Option String
  | .non => some "NoneType"
  | .bl _ => some "bool"
  | .int _ => some "int"
  | .str _ => some "str"
  | .tup _ => some "tuple"
  | .lst _ => some "list"
  | _ => none
def isiD (T : String) (d : D) : Option Bool := (tyN d).bind fun a => kitB a T
def dIsi (T : String) (t : TEd) : TEd := fun env S Q E => t env S (fun d S1 => match isiD T d with | some b => Q (.bl b) S1 | none => False) E
theorem moIsi {T : String} {t : TEd} (h : MoE t) : MoE (dIsi T t) := fun env S Q Q' E E' hq he q => h _ _ _ _ _ _ (fun d S1 q1 => by
  split at q1
  · exact hq _ _ q1
  · exact q1.elim) he q
theorem tyX_of {K : Kz} {S : Sto} {H : Hp} {d : D} {v : V} {a : String} (r : Rp K S H d v) (e : tyN d = some a) : TyX K.K H v (.type a) := by
  cases r with
  | non => cases e; exact .base .non
  | bl b => cases e; exact .base (.bl b)
  | int i => cases e; exact .base (.int i)
  | str x => cases e; exact .base (.str x)
  | tup h1 _ =>
    cases e
    rcases h1 with (h1 | ⟨o, h1⟩) | ⟨o, its, n, h1, h2, _⟩
    · exact .base (.tup h1)
    · exact .fTuple h1
    · exact .kTuple h1 h2
  | lst h1 _ _ _ =>
    cases e
    rcases h1 with h1 | ⟨o, h1⟩
    · exact .base (.lst h1)
    · exact .base (.frz h1)
  | lstK h1 _ =>
    cases e
    obtain ⟨o, its, n, h1, h2, _⟩ := h1
    exact .kList h1 h2
  | ref a hL => cases e
  | obj a => cases e
  | own a _ => cases e
  | ins _ _ _ _ => cases e
section
variable {X : Cx} {W : WX} {e : Expr} {t : TEd} {pos p q : Pos} {x y : Str} {T : String}
variable {P : Program} {w : World} {K : PySem.W.Frag} {mg : Str → Option Value} {base : Heap} {N : List Str} {sc : Scope} {vw : Vw} {k : Nat}
theorem je_isi (c : JC P w K mg base N sc vw k X W) (hx : ("isinstance" : Str) ∈ vw.gs) (hm : mg "isinstance" = none) (hy : y ∈ vw.gs) (hmy : mg y = none) (hv : bootBuiltins y = some (.type T)) (ha : JE X W e t)
    (he : starEach [e, .Name y q] X.env = (false, eval e X.env) :: starEach [.Name y q] X.env := by rfl) : JE X W (.Call (.Name "isinstance" p) [e, .Name y q] [] pos) (dIsi T t) := by
  refine ⟨PE.imp (pe_callB call_isi (c.gl hx) (by rw [c.gg]; exact hm) (by decide +kernel) (pa_cons ha.pe (pa_cons (pe_bltn (v := .ty T) (c.gl hy) (by rw [c.gg]; exact hmy) hv rfl (c.sC.gl y hy).2.1 (c.sC.gl y hy).2.2) pa_nil) he) (c.sC.gl _ hx).2.1 (c.sC.gl _ hx).2.2 he) fun σ H Q h => ?_, moIsi ha.mo⟩
  obtain ⟨Z, env, S, re, rs, q⟩ := h
  refine LE.of ha.mo re rs q (fun d S1 v H1 q1 a1 r1 => ?_) fun x S1 c dx H1 q1 a1 r1 => q1 c dx H1 a1 r1
  unfold isiD at q1
  cases e1 : tyN d with
  | none => rw [e1] at q1; exact q1.elim
  | some a =>
    rw [e1] at q1
    dsimp only [Option.bind_some] at q1
    split at q1 <;> first | exact q1.elim | skip
    rename_i b e2
    exact ⟨v, .ty T, _, _, b, rfl, .ty T, tyX_of r1 e1, kit_ty e2, q1 _ H1 a1 (.bl _)⟩
end
end Bl

namespace Bl
open PySem PySem.Spec PyProof.Rows L2

/-! ### targets -/
inductive Tg where
  | nm (i : Nat)
  | tp (ts : List Tg)
def itemsOf (S : Sto) : D → Option (List D)
  | .tup ds => some ds
  | .lst ds => some ds
  | .ref a => S a
  | _ => none
mutual
def asgT (S : Sto) : Tg → D → Ev → Option Ev
  | .nm i, d, env => some (env.set i (some d))
  | .tp ts, d, env => match itemsOf S d with
    | some ds => asgL S ts ds env
    | none => none
def asgL (S : Sto) : List Tg → List D → Ev → Option Ev
  | [], [], env => some env
  | t :: ts, d :: ds, env => match asgT S t d env with
    | some env1 => asgL S ts ds env1
    | none => none
  | _, _, _ => none
end
mutual
def tgS : Tg → List Nat
  | .nm i => [i]
  | .tp ts => tgsS ts
def tgsS : List Tg → List Nat
  | [] => []
  | t :: ts => tgS t ++ tgsS ts
end
theorem asgL_len {S : Sto} : ∀ {ts : List Tg} {ds : List D} {env env' : Ev}, asgL S ts ds env = some env' → ds.length = ts.length
  | [], [], _, _, _ => rfl
  | [], _ :: _, _, _, h => by unfold asgL at h; cases h
  | _ :: _, [], _, _, h => by unfold asgL at h; cases h
  | t :: ts, d :: ds, env, env', h => by
    unfold asgL at h
    split at h
    · exact congrArg Nat.succ (asgL_len h)
    · cases h
theorem wipe_in {σ : L2.St} {i : Nat} {x : Option V} : ∀ {vs : List Nat}, i ∈ vs → wipe (σ.set i x) vs = wipe σ vs
  | v :: vs, h => by
    unfold wipe
    by_cases hv : i ∈ vs
    · rw [wipe_in hv]
    · have e : v = i := by
        rcases List.mem_cons.mp h with e | e
        · exact e.symm
        · exact absurd e hv
      subst e
      have : ∀ ws : List Nat, v ∉ ws → wipe (σ.set v x) ws = (wipe σ ws).set v x := by
        intro ws
        induction ws with
        | nil => intro _; rfl
        | cons u us ih =>
          intro hn
          have h1 : v ≠ u := fun z => hn (by simp [z])
          have h2 : v ∉ us := fun z => hn (by simp [z])
          unfold wipe
          rw [ih h2, List.set_comm _ _ h1]
      rw [this vs hv, List.set_set]
def LG (K : PySem.W.Frag) (g : Tg) : TG := fun v σ H Q => ∃ Z env S d env', RE ⟨K, Z⟩ S H env σ ∧ RS ⟨K, Z⟩ S H ∧ Rp ⟨K, Z⟩ S H d v ∧ asgT S g d env = some env' ∧
  ∀ σ', RE ⟨K, Z⟩ S H env' σ' → (∀ vs : List Nat, (∀ i ∈ tgS g, i ∈ vs) → wipe σ' vs = wipe σ vs) → Q σ' H
def LGs (K : PySem.W.Frag) (gs : List Tg) : TGs := fun us σ H Q => ∃ Z env S ds env', RE ⟨K, Z⟩ S H env σ ∧ RS ⟨K, Z⟩ S H ∧ RpL ⟨K, Z⟩ S H ds us ∧ asgL S gs ds env = some env' ∧
  ∀ σ', RE ⟨K, Z⟩ S H env' σ' → (∀ vs : List Nat, (∀ i ∈ tgsS gs, i ∈ vs) → wipe σ' vs = wipe σ vs) → Q σ' H
structure JG (X : Cx) (tg : Expr) (g : Tg) : Prop where
  pg : PG X tg (LG X.K g)
structure JGs (X : Cx) (tgs : List Expr) (gs : List Tg) : Prop where
  pg : PGs X tgs (LGs X.K gs)
section
variable {P : Program} {w : World} {K : PySem.W.Frag} {mg : Str → Option Value} {base : Heap} {N : List Str} {sc : Scope} {vw : Vw} {k : Nat} {X : Cx} {W : WX}
theorem JC.loc (c : JC P w K mg base N sc vw k X W) {x : Str} (h : sc.names.lookup x = some .local ∨ sc.names.lookup x = some .cell ∧ ∀ y, X.fn y = true) : Loc X.env.scope x ∧ (X.fn x = true ∨ X.env.scope.names.lookup x = some .local) := by
  rw [c.ss]
  rcases h with h | h
  · exact ⟨.inl h, .inr h⟩
  · exact ⟨.inr h.1, .inl (h.2 x)⟩
theorem jg_name (c : JC P w K mg base N sc vw k X W) (i : Nat) {x : Str} {pos : Pos} (hi : N[i]? = some x) (hx : sc.names.lookup x = some .local ∨ sc.names.lookup x = some .cell ∧ ∀ y, X.fn y = true) : JG X (.Name x pos) (.nm i) := by
  obtain ⟨l1, l2⟩ := c.loc hx
  refine ⟨⟨fun pins s σ H v u Q I r h => ?_⟩⟩
  obtain ⟨Z, env, S, d, env', re, rs, rp, e, q⟩ := h
  refine (pg_name (i := i) (by rw [c.nn]; exact c.nd) (by rw [c.nn]; exact hi) l1 l2).run pins s σ H v u Q I r (q _ ?_ fun vs hv => wipe_in (hv i (by simp [tgS])))
  unfold asgT at e
  cases e
  exact re.set rp i
theorem jgs_nil : JGs X [] [] := by
  refine ⟨⟨fun pins s σ H v u Q I r h => ?_⟩⟩
  obtain ⟨Z, env, S, ds, env', re, rs, rp, e, q⟩ := h
  cases ds with
  | cons d ds => unfold asgL at e; cases e
  | nil =>
    cases rp
    unfold asgL at e
    cases e
    exact pgs_nil.run pins s σ H [] u Q I r ⟨rfl, q σ re fun _ _ => rfl⟩
theorem jgs_cons {e : Expr} {es : List Expr} {g : Tg} {gt : List Tg} (h1 : JG X e g) (h2 : JGs X es gt) (hs : (assignEach (e :: es) X.env).map (·.2) = assign e X.env :: (assignEach es X.env).map (·.2) := by rfl) : JGs X (e :: es) (g :: gt) := by
  refine ⟨⟨fun pins s σ H v u Q I r h => ?_⟩⟩
  obtain ⟨Z, env, S, ds, env', re, rs, rp, e0, q⟩ := h
  cases ds with
  | nil => unfold asgL at e0; cases e0
  | cons d ds =>
    cases rp with
    | cons rp1 rp2 =>
      unfold asgL at e0
      split at e0 <;> first | cases e0; done | skip
      rename_i env1 e1
      refine (pgs_cons h1.pg h2.pg hs).run pins s σ H _ u Q I r ⟨_, _, rfl, Z, env, S, d, env1, re, rs, rp1, e1, fun σ1 re1 w1 => ?_⟩
      exact ⟨Z, env1, S, ds, env', re1, rs, rp2, e0, fun σ2 re2 w2 => q σ2 re2 fun vs hv => by
        rw [w2 vs fun i hi => hv i (by unfold tgsS; exact List.mem_append_right _ hi), w1 vs fun i hi => hv i (by unfold tgsS; exact List.mem_append_left _ hi)]⟩
theorem jg_tup {es : List Expr} {n : Nat} {gt : List Tg} {pos : Pos} (hc : X.calm = true) (h : JGs X es gt) (hn : (assignEach es X.env).length = gt.length := by rfl) (hst : (assignEach es X.env).findIdx? (·.1) = none := by rfl) : JG X (.Tuple es n pos) (.tp gt) := by
  refine ⟨⟨fun pins s σ H v u Q I r h2 => ?_⟩⟩
  obtain ⟨Z, env, S, d, env', re, rs, rp, e, q⟩ := h2
  unfold asgT at e
  split at e <;> first | cases e; done | skip
  rename_i ds e1
  have ln := asgL_len e
  have fin : ∀ vs, RpL ⟨X.K, Z⟩ S H ds vs → LGs X.K gt vs σ H Q := fun vs rl => ⟨Z, env, S, ds, env', re, rs, rl, e, fun σ' r' w' => q σ' r' fun vs hv => w' vs fun i hi => hv i (by unfold tgS; exact hi)⟩
  cases rp with
  | tup h1 h2 =>
    unfold itemsOf at e1
    cases e1
    exact (pg_tup hc h.pg hn hst).run pins s σ H _ u Q I r ⟨_, _, rfl, h1, by rw [← h2.length]; exact ln, fin _ h2⟩
  | lst h1 _ _ h2 =>
    unfold itemsOf at e1
    cases e1
    exact (pg_lst hc h.pg hn hst).run pins s σ H _ u Q I r ⟨_, _, rfl, .inl h1, by rw [← h2.length]; exact ln, fin _ h2⟩
  | lstK h1 h2 =>
    unfold itemsOf at e1
    cases e1
    exact (pg_lst hc h.pg hn hst).run pins s σ H _ u Q I r ⟨_, _, rfl, SqL.ofK h1, by rw [← h2.length]; exact ln, fin _ h2⟩
  | ref a hL =>
    unfold itemsOf at e1
    obtain ⟨vs, h1, h2⟩ := rs.atL a ds e1
    exact (pg_lst hc h.pg hn hst).run pins s σ H _ u Q I r ⟨_, _, rfl, SqL.of h1, by rw [← h2.length]; exact ln, fin _ h2⟩
  | _ => unfold itemsOf at e1; cases e1
end

/-! ### blocks -/
def sNx : TSd := fun env S N => N.nx env S
def sSeq (t u : TSd) : TSd := fun env S N => t env S { N with nx := fun e S1 => u e S1 N }
def sRet (t : TEd) : TSd := fun env S N => t env S N.rt fun x S1 => N.ex x env S1
def sRetN : TSd := fun _ S N => N.rt .non S
def sDrop (t : TEd) : TSd := fun env S N => t env S (fun _ S1 => N.nx env S1) fun x S1 => N.ex x env S1
def sIf (c : TTd) (t u : TSd) : TSd := fun env S N => c env S (fun b S1 => if b = true then t env S1 N else u env S1 N) fun x S1 => N.ex x env S1
def sBrk : TSd := fun env S N => N.bk env S
def sCnt : TSd := fun env S N => N.ct env S
def sAsg (t : TEd) (g : Tg) : TSd := fun env S N => t env S (fun d S1 => match asgT S1 g d env with
  | some e => N.nx e S1
  | none => False) fun x S1 => N.ex x env S1
/-- a, b = x, y with plain local names -/
def sPar (is : List Nat) (t : TAd) : TSd := fun env S N => t env S (fun ds S1 => match asgL S1 (is.map .nm) ds env with
  | some e => N.nx e S1
  | none => False) fun x S1 => N.ex x env S1
def sAug (i : Nat) (t : TEd) (f : F2) : TSd := fun env S N => match env[i]? with
  | some (some x) => t env S (fun y S1 => f x y S1 fun z S2 => N.nx (env.set i (some z)) S2) fun x S1 => N.ex x env S1
  | _ => False
def setD (o i v : D) (S : Sto) (Q : Sto → Prop) : Prop := match o, i with
  | .ref a, .int k => match S a with
    | some ds => match ixN ds.length k with
      | some j => Q (sup S a (ds.set j v))
      | none => False
    | none => False
  | _, _ => False
def sSub (te to ti : TEd) : TSd := fun env S N => te env S (fun v S1 => to env S1 (fun o S2 => ti env S2 (fun i S3 => setD o i v S3 fun S4 => N.nx env S4) fun x S3 => N.ex x env S3) fun x S2 => N.ex x env S2) fun x S1 => N.ex x env S1
/-- a list is grown no more -/
def sFrz (i : Nat) (t : TSd) : TSd := fun env S N => match env[i]? with
  | some (some (.ref a)) => match S a with
    | some ds => t (env.set i (some (.lst ds))) (sdel S a) N
    | none => False
  | _ => False
def sWhile (c : TTd) (b : TSd) : TSd := fun env S N => ∃ Wi : Nat → Ev → Sto → Prop, (∃ m, Wi m env S) ∧ ∀ m env S, Wi m env S → c env S (fun k S1 => if k = true then b env S1 { N with nx := fun e s => ∃ m', m' < m ∧ Wi m' e s, ct := fun e s => ∃ m', m' < m ∧ Wi m' e s, bk := N.nx } else N.nx env S1) fun x S1 => N.ex x env S1
def forD (g : Tg) (b : TSd) : List D → Ev → Sto → Nd → Prop
  | [], env, S, N => N.nx env S
  | d :: ds, env, S, N => match asgT S g d env with
    | some e1 => b e1 S { N with nx := fun e s => forD g b ds e s N, ct := fun e s => forD g b ds e s N, bk := N.nx }
    | none => False
def sFor (ti : TAd) (g : Tg) (b : TSd) : TSd := fun env S N => ti env S (fun ds S1 => forD g b ds env S1 N) fun x S1 => N.ex x env S1

theorem NdLe.refl (A : Nd) : NdLe A A := ⟨fun _ _ h => h, fun _ _ h => h, fun _ _ h => h, fun _ _ h => h, fun _ _ _ h => h⟩
theorem moNx : MoS sNx := fun env S A B l h => l.nx _ _ h
theorem moSeq {t u : TSd} (ht : MoS t) (hu : MoS u) : MoS (sSeq t u) := fun env S A B l h => ht env S { A with nx := fun e S1 => u e S1 A } { B with nx := fun e S1 => u e S1 B } ⟨fun e S1 q => hu _ _ _ _ l q, l.rt, l.bk, l.ct, l.ex⟩ h
theorem moRet {t : TEd} (ht : MoE t) : MoS (sRet t) := fun env S A B l h => ht _ _ _ _ _ _ l.rt (fun x S1 q => l.ex _ _ _ q) h
theorem moRetN : MoS sRetN := fun env S A B l h => l.rt _ _ h
theorem moDrop {t : TEd} (ht : MoE t) : MoS (sDrop t) := fun env S A B l h => ht _ _ _ _ _ _ (fun d S1 q => l.nx _ _ q) (fun x S1 q => l.ex _ _ _ q) h
theorem moIfS {c : TTd} {t u : TSd} (hc : MoE c) (ht : MoS t) (hu : MoS u) : MoS (sIf c t u) := fun env S A B l h => hc _ _ _ _ _ _ (fun b S1 q => by
  cases b
  · exact hu _ _ _ _ l q
  · exact ht _ _ _ _ l q) (fun x S1 q => l.ex _ _ _ q) h
theorem moAsg {t : TEd} {g : Tg} (ht : MoE t) : MoS (sAsg t g) := fun env S A B l h => ht _ _ _ _ _ _ (fun d S1 q => by
  split at q
  · exact l.nx _ _ q
  · exact q.elim) (fun x S1 q => l.ex _ _ _ q) h
theorem moPar {is : List Nat} {t : TAd} (ht : MoE t) : MoS (sPar is t) := fun env S A B l h => ht _ _ _ _ _ _ (fun d S1 q => by
  split at q
  · exact l.nx _ _ q
  · exact q.elim) (fun x S1 q => l.ex _ _ _ q) h
theorem moAug {i : Nat} {t : TEd} {f : F2} (ht : MoE t) (hf : MoF2 f) : MoS (sAug i t f) := fun env S A B l h => by
  unfold sAug at h ⊢
  split at h
  · exact ht _ _ _ _ _ _ (fun y S1 q => hf _ _ _ _ _ (fun z S2 q2 => l.nx _ _ q2) q) (fun x S1 q => l.ex _ _ _ q) h
  · exact h
theorem moSetD {o i v : D} {S : Sto} {Q Q' : Sto → Prop} (h : ∀ S, Q S → Q' S) (q : setD o i v S Q) : setD o i v S Q' := by
  unfold setD at q ⊢
  split at q <;> first | exact q.elim | skip
  split at q <;> first | exact q.elim | skip
  split at q <;> first | exact q.elim | exact h _ q
theorem moSub' {te to ti : TEd} (h1 : MoE te) (h2 : MoE to) (h3 : MoE ti) : MoS (sSub te to ti) := fun env S A B l h => h1 _ _ _ _ _ _ (fun v S1 q1 => h2 _ _ _ _ _ _ (fun o S2 q2 => h3 _ _ _ _ _ _ (fun i S3 q3 => moSetD (fun S4 q4 => l.nx _ _ q4) q3)
  (fun x S3 q => l.ex _ _ _ q) q2) (fun x S2 q => l.ex _ _ _ q) q1) (fun x S1 q => l.ex _ _ _ q) h
theorem moWhile {c : TTd} {b : TSd} (hc : MoE c) (hb : MoS b) : MoS (sWhile c b) := fun env S A B l h => by
  obtain ⟨Wi, h0, turn⟩ := h
  refine ⟨Wi, h0, fun m env S hw => hc _ _ _ _ _ _ (fun k S1 q => ?_) (fun x S1 q => l.ex _ _ _ q) (turn m env S hw)⟩
  cases k
  · exact l.nx _ _ q
  · exact hb _ _ { A with nx := fun e s => ∃ m', m' < m ∧ Wi m' e s, ct := fun e s => ∃ m', m' < m ∧ Wi m' e s, bk := A.nx } _ ⟨fun _ _ z => z, l.rt, l.nx, fun _ _ z => z, l.ex⟩ q
theorem moForD {g : Tg} {b : TSd} (hb : MoS b) : ∀ (ds : List D) (env : Ev) (S : Sto) (A B : Nd), NdLe A B → forD g b ds env S A → forD g b ds env S B
  | [], env, S, A, B, l, h => l.nx _ _ h
  | d :: ds, env, S, A, B, l, h => by
    unfold forD at h ⊢
    split at h <;> first | exact h.elim | skip
    exact hb _ _ { A with nx := fun e s => forD g b ds e s A, ct := fun e s => forD g b ds e s A, bk := A.nx } _ ⟨fun e s q => moForD hb ds e s A B l q, l.rt, l.nx, fun e s q => moForD hb ds e s A B l q, l.ex⟩ h
theorem moFor {ti : TAd} {g : Tg} {b : TSd} (ht : MoE ti) (hb : MoS b) : MoS (sFor ti g b) := fun env S A B l h => ht _ _ _ _ _ _ (fun ds S1 q => moForD hb ds env S1 A B l q) (fun x S1 q => l.ex _ _ _ q) h

section
variable {P : Program} {w : World} {K : PySem.W.Frag} {mg : Str → Option Value} {base : Heap} {N : List Str} {sc : Scope} {vw : Vw} {k : Nat} {X : Cx} {W : WX}
variable {st : Stmt} {rest a b : List Stmt} {t u : TSd} {e o i : Expr} {te to ti : TEd} {tc : TTd} {pos pos' : Pos}
theorem jb_nil : JB X W [] sNx := ⟨PSs.imp pss_nil fun N σ H h => by
  obtain ⟨Z, env, S, re, rs, q⟩ := h
  exact q σ H (.refl rs) re, moNx⟩
theorem jb_cons (h1 : JS X W st t) (h2 : JB X W rest u) : JB X W (st :: rest) (sSeq t u) := by
  refine ⟨PSs.imp (pss_cons h1.ps h2.ps) fun N σ H h => ?_, moSeq h1.mo h2.mo⟩
  obtain ⟨Z, env, S, re, rs, q⟩ := h
  refine LS.of h1.mo re rs q ⟨fun e S1 q1 σ1 H1 a1 r1 => ?_, fun _ _ z => z, fun _ _ z => z, fun _ _ z => z, fun _ _ _ z => z⟩
  exact LS.of h2.mo r1 a1.rs q1 (LN.after a1 N)
theorem jb_one (h1 : JS X W st t) : JB X W [st] t := ⟨pss_one h1.ps, h1.mo⟩
/-- exceptions out of an expression of a statement -/
theorem exS {K : Kz} {S S1 : Sto} {H H1 : Hp} {env : Ev} {σ : L2.St} {M : Ends} {x : Xc} {c : Value} {dx : Option Addr} (re : RE K S H env σ) (rs : RS K S H) (q : (LN K S H W M).ex x env S1) (a : Aft K S H S1 H1) (r : RX K S1 H1 x c dx) : W c dx σ H1 := q c dx σ H1 a (re.step a.st rs) r
theorem js_expr (he : JE X W e te) (hs : swapsWith e none pos.line X.env = pure false := by rfl) : JS X W (.Expr e pos) (sDrop te) := by
  refine ⟨PS.imp (ps_expr he.pe hs) fun N σ H h => ?_, moDrop he.mo⟩
  obtain ⟨Z, env, S, re, rs, q⟩ := h
  exact LE.of he.mo re rs q (fun d S1 v H1 q1 a1 r1 => q1 σ H1 a1 (re.step a1.st rs)) fun x S1 c dx H1 q1 a1 r1 => exS re rs q1 a1 r1
theorem js_ret (he : JE X W e te) : JS X W (.Return (some e) pos) (sRet te) := by
  refine ⟨PS.imp (ps_ret he.pe) fun N σ H h => ?_, moRet he.mo⟩
  obtain ⟨Z, env, S, re, rs, q⟩ := h
  exact LE.of he.mo re rs q (fun d S1 v H1 q1 a1 r1 => q1 v H1 a1 r1) fun x S1 c dx H1 q1 a1 r1 => exS re rs q1 a1 r1
theorem js_if {c : Expr} (hc : JT X W c tc) (ha : JB X W a t) (hb : JB X W b u) : JS X W (.If c a b pos) (sIf tc t u) := by
  refine ⟨PS.imp (ps_if hc.pt ha.ps hb.ps) fun N σ H h => ?_, moIfS hc.mo ha.mo hb.mo⟩
  obtain ⟨Z, env, S, re, rs, q⟩ := h
  refine LT.of hc.mo re rs q (fun c S1 H1 q1 a1 => ?_) fun x S1 c dx H1 q1 a1 r1 => exS re rs q1 a1 r1
  cases c with
  | true => exact iteT (LS.of ha.mo (re.step a1.st rs) a1.rs q1 (LN.after a1 N))
  | false => exact iteF (LS.of hb.mo (re.step a1.st rs) a1.rs q1 (LN.after a1 N))
theorem js_asg {tg : Expr} {g : Tg} (he : JE X W e te) (hg : JG X tg g) (hs : swapsWithSole [tg] e pos.line X.env = pure false := by rfl) (hw : swappedStores [tg] e X.env = pure none := by rfl) (h1 : (assignEach [tg] X.env).map (·.2) = [assign tg X.env] := by rfl) :
    JS X W (.Assign [tg] e pos) (sAsg te g) := by
  refine ⟨PS.imp (ps_asg he.pe hg.pg hs hw h1) fun N σ H h => ?_, moAsg he.mo⟩
  obtain ⟨Z, env, S, re, rs, q⟩ := h
  refine LE.of he.mo re rs q (fun d S1 v H1 q1 a1 r1 => ?_) fun x S1 c dx H1 q1 a1 r1 => exS re rs q1 a1 r1
  split at q1 <;> first | exact q1.elim | skip
  rename_i e1 ee
  exact ⟨Z, env, S1, d, e1, re.step a1.st rs, a1.rs, r1, ee, fun σ' r' _ => q1 σ' H1 a1 r'⟩
theorem js_set (c : JC P w K mg base N sc vw k X W) (j : Nat) {x : Str} (hi : N[j]? = some x) (hx : sc.names.lookup x = some .local ∨ sc.names.lookup x = some .cell ∧ ∀ y, X.fn y = true) (he : JE X W e te) (hs : swapsWith e (some (.Name x pos')) pos.line X.env = pure false := by rfl) :
    JS X W (.Assign [.Name x pos'] e pos) (sAsg te (.nm j)) := by
  obtain ⟨l1, l2⟩ := c.loc hx
  refine ⟨PS.imp (ps_set (i := j) (by rw [c.nn]; exact c.nd) (by rw [c.nn]; exact hi) l1 he.pe hs l2) fun N σ H h => ?_, moAsg he.mo⟩
  obtain ⟨Z, env, S, re, rs, q⟩ := h
  refine LE.of he.mo re rs q (fun d S1 v H1 q1 a1 r1 => ?_) fun x S1 c dx H1 q1 a1 r1 => exS re rs q1 a1 r1
  unfold asgT at q1
  exact q1 _ H1 a1 ((re.step a1.st rs).set r1 j)
theorem js_par {x y : Str} {p q : Expr} {ta : TAd} {px py pt : Pos} {kt k2 : Nat} {pt2 : Pos} (c : JC P w K mg base N sc vw k X W) (l j : Nat) (hl : N[l]? = some x) (hj : N[j]? = some y) (hlj : l ≠ j) (hx : sc.names.lookup x = some .local) (hy : sc.names.lookup y = some .local) (ha : JA X W [p, q] ta)
    (hw : swappedStores [.Tuple [.Name x px, .Name y py] kt pt] (.Tuple [p, q] k2 pt2) X.env = pure (some [x, y])) (hs : swapsWithSole [.Tuple [.Name x px, .Name y py] kt pt] (.Tuple [p, q] k2 pt2) pos.line X.env = pure false := by rfl) :
    JS X W (.Assign [.Tuple [.Name x px, .Name y py] kt pt] (.Tuple [p, q] k2 pt2) pos) (sPar [l, j] ta) := by
  refine ⟨PS.imp (ps_par c.calm (by rw [c.nn]; exact c.nd) (by rw [c.nn]; exact hl) (by rw [c.nn]; exact hj) hlj (by rw [c.ss]; exact hx) (by rw [c.ss]; exact hy) ha.pa hw hs) fun N σ H h => ?_, moPar ha.mo⟩
  obtain ⟨Z, env, S, re, rs, q⟩ := h
  refine LA.of ha.mo re rs q (fun ds S1 vs H1 q1 a1 r1 => ?_) fun x S1 c dx H1 q1 a1 r1 => exS re rs q1 a1 r1
  split at q1 <;> first | exact q1.elim | skip
  rename_i e1 ee
  have ln := asgL_len ee
  match ds, r1, ln, ee with
  | [d1, d2], r1, _, ee =>
    obtain ⟨v1, v2, rfl, r1, r2⟩ := r1.two
    refine ⟨v1, v2, rfl, ?_⟩
    simp only [List.map_cons, List.map_nil, asgL, asgT, Option.some.injEq] at ee
    subst ee
    exact q1 _ H1 a1 (((re.step a1.st rs).set r1 l).set r2 j)
theorem js_par3 {x y z : Str} {p q r : Expr} {ta : TAd} {px py pz pt : Pos} {kt k2 : Nat} {pt2 : Pos} (c : JC P w K mg base N sc vw k X W) (l j m : Nat) (hl : N[l]? = some x) (hj : N[j]? = some y) (hm : N[m]? = some z) (hlj : l ≠ j) (hlm : l ≠ m) (hjm : j ≠ m)
    (hx : sc.names.lookup x = some .local) (hy : sc.names.lookup y = some .local) (hz : sc.names.lookup z = some .local) (ha : JA X W [p, q, r] ta)
    (hw : swappedStores [.Tuple [.Name x px, .Name y py, .Name z pz] kt pt] (.Tuple [p, q, r] k2 pt2) X.env = pure (some [x, y, z])) (hs : swapsWithSole [.Tuple [.Name x px, .Name y py, .Name z pz] kt pt] (.Tuple [p, q, r] k2 pt2) pos.line X.env = pure false := by rfl) :
    JS X W (.Assign [.Tuple [.Name x px, .Name y py, .Name z pz] kt pt] (.Tuple [p, q, r] k2 pt2) pos) (sPar [l, j, m] ta) := by
  refine ⟨PS.imp (ps_par3 c.calm (by rw [c.nn]; exact c.nd) (by rw [c.nn]; exact hl) (by rw [c.nn]; exact hj) (by rw [c.nn]; exact hm) hlj hlm hjm (by rw [c.ss]; exact hx) (by rw [c.ss]; exact hy) (by rw [c.ss]; exact hz) ha.pa hw hs) fun N σ H h => ?_, moPar ha.mo⟩
  obtain ⟨Z, env, S, re, rs, q⟩ := h
  refine LA.of ha.mo re rs q (fun ds S1 vs H1 q1 a1 r1 => ?_) fun x S1 c dx H1 q1 a1 r1 => exS re rs q1 a1 r1
  split at q1 <;> first | exact q1.elim | skip
  rename_i e1 ee
  have ln := asgL_len ee
  match ds, r1, ln, ee with
  | [d1, d2, d3], r1, _, ee =>
    cases r1 with
    | cons rv1 rr =>
      obtain ⟨v2, v3, rfl, r2, r3⟩ := rr.two
      refine ⟨_, v2, v3, rfl, ?_⟩
      simp only [List.map_cons, List.map_nil, asgL, asgT, Option.some.injEq] at ee
      subst ee
      exact q1 _ H1 a1 ((((re.step a1.st rs).set rv1 l).set r2 j).set r3 m)
theorem js_aug (c : JC P w K mg base N sc vw k X W) (j : Nat) {x : Str} {op : Operator} {f : F2} (hi : N[j]? = some x) (hx : sc.names.lookup x = some .local ∨ sc.names.lookup x = some .cell ∧ ∀ y, X.fn y = true) (he : JE X W e te) (ho : OpD X (inplaceOp op) f) : JS X W (.AugAssign (.Name x pos') op e pos) (sAug j te f) := by
  obtain ⟨l1, l2⟩ := c.loc hx
  refine ⟨PS.imp (ps_aug (i := j) (by rw [c.nn]; exact c.nd) (by rw [c.nn]; exact hi) l1 he.pe ho.op l2) fun N σ H h => ?_, moAug he.mo ho.mo⟩
  obtain ⟨Z, env, S, re, rs, q⟩ := h
  unfold sAug at q
  split at q <;> first | exact q.elim | skip
  rename_i d ee
  obtain ⟨v, e1, rp⟩ := re.at_ j d ee
  refine ⟨v, e1, LE.of he.mo re rs q (fun d2 S1 y H1 q1 a1 r1 => ?_) fun x S1 c dx H1 q1 a1 r1 => exS re rs q1 a1 r1⟩
  exact ⟨Z, S1, d, d2, a1.rs, Rp.step a1.st rs _ _ rp, r1, ho.mo _ _ _ _ _ (fun d3 S2 q2 z H2 a2 r2 => q2 _ H2 (a1.trans a2) (((re.step a1.st rs).step a2.st a1.rs).set r2 j)) q1⟩
theorem js_sub (ho : JE X W o to) (hi : JE X W i ti) (he : JE X W e te) (hs : swapsWithSole [.Subscript o i pos'] e pos.line X.env = pure false := by rfl) (hw : swappedStores [.Subscript o i pos'] e X.env = pure none := by rfl)
    (h1 : (assignEach [.Subscript o i pos'] X.env).map (·.2) = [assign (.Subscript o i pos') X.env] := by rfl)
    (ha : ∀ v, assign (.Subscript o i pos') X.env v = (do
      let ov ← holding [v] (eval o X.env)
      let iv ← holding [v, ov] (eval i X.env)
      standAt pos'
      holding [v, ov, iv] (setItem ov iv v)
      release [v, ov, iv] []) := by intro _; rfl) : JS X W (.Assign [.Subscript o i pos'] e pos) (sSub te to ti) := by
  refine ⟨PS.imp (ps_asg he.pe (pg_sub ho.pe hi.pe set_list ha) hs hw h1) fun N σ H h => ?_, moSub' he.mo ho.mo hi.mo⟩
  obtain ⟨Z, env, S, re, rs, q⟩ := h
  refine LE.of he.mo re rs q (fun d S1 v H1 q1 a1 r1 => ?_) fun x S1 c dx H1 q1 a1 r1 => exS re rs q1 a1 r1
  refine LE.of ho.mo (re.step a1.st rs) a1.rs q1 (fun d2 S2 ov H2 q2 a2 r2 => ?_) fun x S2 c dx H2 q2 a2 r2 => exS re rs q2 (a1.trans a2) r2
  have a12 := a1.trans a2
  refine LE.of hi.mo (re.step a12.st rs) a2.rs q2 (fun d3 S3 iv H3 q3 a3 r3 => ?_) fun x S3 c dx H3 q3 a3 r3 => exS re rs q3 (a12.trans a3) r3
  have a13 := a12.trans a3
  unfold setD at q3
  split at q3 <;> first | exact q3.elim | skip
  split at q3 <;> first | exact q3.elim | skip
  rename_i ad kk ds e0
  split at q3 <;> first | exact q3.elim | skip
  rename_i jj e1
  cases r2 with
  | ref _ hL =>
  cases r3
  have hL3 := a3.st.kp.isL hL
  obtain ⟨vs, hl, rl⟩ := a3.rs.atL _ _ e0
  have rv := Rp.step a3.st a2.rs _ _ (Rp.step a2.st a1.rs _ _ r1)
  refine ⟨_, vs, _, jj, rfl, rfl, hl, by rw [← rl.length]; exact e1, ?_⟩
  have a4 := Rp.putR a3.rs e0 (rl.set jj rv)
  exact q3 σ _ (a13.trans a4) (re.step (a13.trans a4).st rs)
theorem js_while {c : Expr} {body : List Stmt} (hd : JD P w K mg base N sc vw k X W) (hc : JT X W c tc) (hb : JB X W body t) : JS X W (.While c body [] pos) (sWhile tc t) := by
  refine ⟨PS.imp (ps_while hd.po hc.pt hb.ps) fun M σ H h => ?_, moWhile hc.mo hb.mo⟩
  obtain ⟨Z, env, S, re, rs, q⟩ := h
  obtain ⟨Wi, ⟨m0, w0⟩, turn⟩ := q
  refine ⟨fun m σ' H' => ∃ env' S', Aft ⟨X.K, Z⟩ S H S' H' ∧ RE ⟨X.K, Z⟩ S' H' env' σ' ∧ Wi m env' S', ⟨m0, env, S, .refl rs, re, w0⟩, fun m σ1 H1 hw => ?_⟩
  obtain ⟨env1, S1, a1, re1, w1⟩ := hw
  refine LT.of hc.mo re1 a1.rs (turn m env1 S1 w1) (fun b S2 H2 q2 a2 => ?_) fun x S2 c dx H2 q2 a2 r2 => q2 c dx σ1 H2 (a1.trans a2) (re1.step a2.st a1.rs) r2
  have a12 := a1.trans a2
  cases b with
  | false => exact iteF (q2 σ1 H2 a12 (re1.step a2.st a1.rs))
  | true =>
    refine iteT ⟨fun σ' H' => ∃ m', m' < m ∧ ∃ env' S', Aft ⟨X.K, Z⟩ S H S' H' ∧ RE ⟨X.K, Z⟩ S' H' env' σ' ∧ Wi m' env' S', fun σ' H' hh => hh, ?_⟩
    refine LS.of hb.mo (re1.step a2.st a1.rs) a2.rs q2 ⟨fun e s hh σ' H' a3 r3 => ?_, fun d s hh v H' a3 r3 => hh v H' (a12.trans a3) r3, fun e s hh σ' H' a3 r3 => hh σ' H' (a12.trans a3) r3, fun e s hh σ' H' a3 r3 => ?_, fun x e s hh c dx σ' H' a3 r3 rx => hh c dx σ' H' (a12.trans a3) r3 rx⟩
    · obtain ⟨m', hm, hw⟩ := hh
      exact ⟨m', hm, e, s, a12.trans a3, r3, hw⟩
    · obtain ⟨m', hm, hw⟩ := hh
      exact ⟨m', hm, e, s, a12.trans a3, r3, hw⟩
end

/-! ### what is walked -/
def WkD (K : Kz) (S : Sto) (H : Hp) (J : It) (ds : List D) : Prop := ∃ (G : Hp → Prop) (Y : Nat → Hp → V → Hp → Prop), Walk J ds.length G Y ∧ (∀ S' H', Step S H S' H' → G H') ∧
  ∀ (K' : Kz) i S' H' x H'', K'.K = K.K → Step S H S' H' → RS K' S' H' → (∀ d v, Rp K S H d v → Rp K' S' H' d v) → i < ds.length → Y i H' x H'' → Aft K' S' H' S' H'' ∧ ∃ d, ds[i]? = some d ∧ Rp K' S' H'' d x
def LI (K : PySem.W.Frag) (W : WX) (t : TAd) : TI := fun σ H R => ∃ Z env S, RE ⟨K, Z⟩ S H env σ ∧ RS ⟨K, Z⟩ S H ∧ t env S (fun ds S' => ∀ J H', Aft ⟨K, Z⟩ S H S' H' → WkD ⟨K, Z⟩ S' H' J ds → R J H') (PX ⟨K, Z⟩ S H σ W)
structure JI (X : Cx) (W : WX) (tg iter : Expr) (t : TAd) : Prop where
  pi : PI X tg iter (LI X.K W t)
  mo : MoE t
theorem LI.of {K : Kz} {W : WX} {S : Sto} {H : Hp} {env : Ev} {σ : L2.St} {t : TAd} (mo : MoE t) (re : RE K S H env σ) (rs : RS K S H) {C : List D → Sto → Prop} {E : EK} {R : It → Hp → Prop} (h : t env S C E)
    (hc : ∀ ds S1 J H1, C ds S1 → Aft K S H S1 H1 → WkD K S1 H1 J ds → R J H1) (he : ∀ x S1 c dx H1, E x S1 → Aft K S H S1 H1 → RX K S1 H1 x c dx → W c dx σ H1) : LI K.K W t σ H R :=
  ⟨K.Z, env, S, re, rs, mo _ _ _ _ _ _ (fun ds S1 q J H1 a wk => hc ds S1 J H1 q a wk) (fun x S1 q c dx H1 a r => he x S1 c dx H1 q a r) h⟩
section
variable {P : Program} {w : World} {K : PySem.W.Frag} {mg : Str → Option Value} {base : Heap} {N : List Str} {sc : Scope} {vw : Vw} {k : Nat} {X : Cx} {W : WX}
theorem js_for {tg iter : Expr} {body : List Stmt} {tb : TSd} {ti : TAd} {g : Tg} {pos : Pos} (hd : JD P w K mg base N sc vw k X W) (hi : JI X W tg iter ti) (hg : JG X tg g) (hb : JB X W body tb) (hs : ∀ x, foldedSetIterable iter X.env x = pure x := by intro _; rfl) : JS X W (.For tg iter body [] pos) (sFor ti g tb) := by
  refine ⟨PS.imp (ps_for hd.po hd.calm hi.pi hg.pg hb.ps hs) fun M σ H h => ?_, moFor hi.mo hb.mo⟩
  obtain ⟨Z, env, S, re, rs, q⟩ := h
  refine LI.of hi.mo re rs q (fun ds S1 J H1 q1 a1 wk => ?_) fun x S1 c dx H1 q1 a1 r1 => exS re rs q1 a1 r1
  obtain ⟨G, Y, wk, hG, hY⟩ := wk
  refine for_it wk (fun i σ' H' => ∃ env' S', Aft ⟨X.K, Z⟩ S1 H1 S' H' ∧ RE ⟨X.K, Z⟩ S' H' env' σ' ∧ forD g tb (ds.drop i) env' S' (LN ⟨X.K, Z⟩ S H W M)) ⟨env, S1, .refl a1.rs, re.step a1.st rs, q1⟩ (fun i σ' H' _ ⟨env', S', a, _, _⟩ => hG S' H' a.st) (fun i x σ' H' H'' hi hp y => ?_) fun σ' H' hp => ?_
  · obtain ⟨env', S', a, re', q'⟩ := hp
    obtain ⟨a2, d, ed, rd⟩ := hY ⟨X.K, Z⟩ i S' H' x H'' rfl a.st a.rs (fun d v r => Rp.step a.st a1.rs d v r) hi y
    have e0 : ds.drop i = d :: ds.drop (i + 1) := by
      rw [List.drop_eq_getElem_cons hi]
      congr 1
      rw [List.getElem?_eq_getElem hi] at ed
      exact Option.some.inj ed
    rw [e0] at q'
    unfold forD at q'
    split at q' <;> first | exact q'.elim | skip
    rename_i e1 ee
    have a3 := a.trans a2
    have a13 := a1.trans a3
    refine ⟨Z, env', S', d, e1, re'.step a2.st a.rs, a2.rs, rd, ee, fun σ2 r2 _ => ?_⟩
    refine LS.of hb.mo r2 a2.rs q' ⟨fun e s hh σ3 H3 a4 r3 => ⟨e, s, a3.trans a4, r3, hh⟩, fun d s hh v H3 a4 r3 => hh v H3 (a13.trans a4) r3, fun e s hh σ3 H3 a4 r3 => hh σ3 H3 (a13.trans a4) r3, fun e s hh σ3 H3 a4 r3 => ⟨e, s, a3.trans a4, r3, hh⟩, fun x e s hh c dx σ3 H3 a4 r3 rx => hh c dx σ3 H3 (a13.trans a4) r3 rx⟩
  · obtain ⟨env', S', a, re', q'⟩ := hp
    rw [List.drop_length] at q'
    unfold forD at q'
    exact q' σ' H' (a1.trans a) re'

/-! #### iterators -/
theorem it_list {tg : Expr} {pins : List (Addr × Obj)} {σ : L2.St} {H : Hp} {s : Shared} {R : It → Hp → Prop} {a : Addr} {xs : List V} (I : Inv X pins σ H s) (hq : SqL X.K H a xs) (q : R (Itl X.K a) H) : wpAny (model X.prog X.w) X.A (pyIter (.ref a)) (PIE X pins σ tg R) X.xe s := by
  obtain ⟨its, _, pln, _⟩ := I.list hq
  refine wpAny_pyIter_list pln.isList ⟨s.heap.objs.size, [s.heap.objs.size], _, _, H, rfl, I.kept (t' := s.toks) fun _ _ e => Heap.get?_push_of_some _ e, turn_list a _, ⟨_, Heap.get?_push_size _ rfl, rfl, rfl⟩, fun b hb => ?_, q⟩
  obtain rfl : b = s.heap.objs.size := by simpa using hb
  exact I.fpOk (Nat.le_refl _) (I.hok.fresh (Nat.le_refl _))
theorem it_tup {tg : Expr} {pins : List (Addr × Obj)} {σ : L2.St} {H : Hp} {s : Shared} {R : It → Hp → Prop} {a : Addr} {xs : List V} (I : Inv X pins σ H s) (hq : SqT X.K H a xs) (q : R (Itt X.K a) H) : wpAny (model X.prog X.w) X.A (pyIter (.ref a)) (PIE X pins σ tg R) X.xe s := by
  obtain ⟨its, _, pln, _⟩ := I.tuple hq
  refine wpAny_pyIter_tuple (show s.heap.IsTuple a its.toArray from pln) ⟨s.heap.objs.size, [s.heap.objs.size], _, _, H, rfl, I.kept (t' := s.toks) fun _ _ e => Heap.get?_push_of_some _ e, turn_tuple a _, ⟨_, Heap.get?_push_size _ rfl, rfl, rfl⟩, fun b hb => ?_, q⟩
  obtain rfl : b = s.heap.objs.size := by simpa using hb
  exact I.fpOk (Nat.le_refl _) (I.hok.fresh (Nat.le_refl _))
/-- a list or a tuple that stands still -/
def iVal (t : TEd) : TAd := fun env S Q E => t env S (fun d S1 => match d with
  | .tup ds => Q ds S1
  | .lst ds => Q ds S1
  | _ => False) E
theorem moIVal {t : TEd} (ht : MoE t) : MoE (iVal t) := fun env S Q Q' E E' h he q => ht _ _ _ _ _ _ (fun d S1 q1 => by
  cases d <;> first | exact h _ _ q1 | exact q1) he q
theorem wk_at {K : Kz} {S : Sto} {H : Hp} {J : It} {G : Hp → Prop} {ds : List D} {vs : List V} (rl : RpL K S H ds vs) (wk : Walk J vs.length G (YAt vs)) (hG : ∀ S' H', Step S H S' H' → G H') : WkD K S H J ds := by
  refine ⟨G, YAt vs, by rw [rl.length]; exact wk, hG, fun K' i S' H' x H'' _ _ rs' tr hi y => ?_⟩
  obtain ⟨rfl, e⟩ := y
  obtain ⟨d, e1, r1⟩ := rl.get' e
  exact ⟨.refl rs', d, e1, tr d x r1⟩
theorem wk_list {K : Kz} {S : Sto} {H : Hp} {a : Addr} {ds : List D} (r : Rp K S H (.lst ds) (.ref a)) : WkD K S H (Itl K.K a) ds := by
  cases r with
  | lst h1 h2 _ h4 => exact wk_at h4 walk_list fun S' H' st => .inl (st.rdL h1 h2).1
  | lstK h1 h2 => exact wk_at h2 walk_list fun S' H' st => SqL.ofK h1
theorem wk_tup {K : Kz} {S : Sto} {H : Hp} {a : Addr} {ds : List D} (rs : RS K S H) (r : Rp K S H (.tup ds) (.ref a)) : WkD K S H (Itt K.K a) ds := by
  cases r with
  | tup h1 h2 => exact wk_at h2 walk_tup fun S' H' st => st.sqT rs h1
theorem ji_val {tg e : Expr} {te : TEd} (he : JE X W e te) : JI X W tg e (iVal te) := by
  refine ⟨⟨fun pins s σ H R I h => ?_⟩, moIVal he.mo⟩
  obtain ⟨Z, env, S, re, rs, q⟩ := h
  refine thn (he.pe.run pins s σ H _ I (LE.of he.mo re rs q (R := fun v H1 => ∃ d S1, Aft ⟨X.K, Z⟩ S H S1 H1 ∧ Rp ⟨X.K, Z⟩ S1 H1 d v ∧ match d with
    | .tup ds => ∀ J H', Aft ⟨X.K, Z⟩ S H S1 H' → WkD ⟨X.K, Z⟩ S1 H' J ds → R J H'
    | .lst ds => ∀ J H', Aft ⟨X.K, Z⟩ S H S1 H' → WkD ⟨X.K, Z⟩ S1 H' J ds → R J H'
    | _ => False) (fun d S1 v H1 q1 a1 r1 => ⟨d, S1, a1, r1, q1⟩) fun x S1 c dx H1 q1 a1 r1 => q1 c dx H1 a1 r1)) fun u s1 ⟨v, H1, I1, ru, d, S1, a1, r1, q1⟩ => ?_
  cases d <;> first | exact q1.elim | skip
  · obtain ⟨a, vs, rfl, hq, _⟩ := r1.sqT
    cases ru
    exact it_tup I1 hq (q1 _ H1 a1 (wk_tup a1.rs r1))
  · obtain ⟨a, vs, rfl, hq, _⟩ := r1.sqL
    cases ru
    exact it_list I1 hq (q1 _ H1 a1 (wk_list r1))
/-! ranges -/
def rngD (lo : Int) (n : Nat) : List D := (List.range n).map fun i : Nat => D.int (lo + i)
def iR1 (t : TAd) : TAd := fun env S Q E => t env S (fun ds S1 => match ds with
  | [.int j] => -(2 ^ 62) ≤ j ∧ j < 2 ^ 62 ∧ Q (rngD 0 j.toNat) S1
  | _ => False) E
def iR2 (t : TAd) : TAd := fun env S Q E => t env S (fun ds S1 => match ds with
  | [.int i, .int j] => (-(2 ^ 62) ≤ i ∧ i < 2 ^ 62 ∧ -(2 ^ 62) ≤ j ∧ j < 2 ^ 62) ∧ Q (rngD i (j - i).toNat) S1
  | _ => False) E
theorem moR1 {t : TAd} (ht : MoE t) : MoE (iR1 t) := fun env S Q Q' E E' h he q => ht _ _ _ _ _ _ (fun ds S1 q1 => by
  split at q1
  · exact ⟨q1.1, q1.2.1, h _ _ q1.2.2⟩
  · exact q1.elim) he q
theorem moR2 {t : TAd} (ht : MoE t) : MoE (iR2 t) := fun env S Q Q' E E' h he q => ht _ _ _ _ _ _ (fun ds S1 q1 => by
  split at q1
  · exact ⟨q1.1, h _ _ q1.2⟩
  · exact q1.elim) he q
theorem wk_rng {K : Kz} {S : Sto} {H : Hp} {lo : Int} {n : Nat} : WkD K S H (Itr lo n) (rngD lo n) := by
  have hl : (rngD lo n).length = n := by simp [rngD]
  refine ⟨fun _ => True, YFn fun i => .int (lo + i), by rw [hl]; exact walk_range, fun _ _ _ => trivial, fun K' i S' H' x H'' _ _ rs' tr hi y => ?_⟩
  obtain ⟨rfl, rfl⟩ := y
  rw [hl] at hi
  exact ⟨.refl rs', .int (lo + i), by simp [rngD, hi], .int _⟩
theorem PI.imp {X : Cx} {tg e : Expr} {t u : TI} (h : PI X tg e t) (k : ∀ σ H Q, u σ H Q → t σ H Q) : PI X tg e u := ⟨fun pins s σ H Q I q => h.run pins s σ H Q I (k σ H Q q)⟩
theorem ji_r1 {tg e : Expr} {ta : TAd} {p pos : Pos} (c : JC P w K mg base N sc vw k X W) (hx : ("range" : Str) ∈ vw.gs) (hm : mg "range" = none) (ha : JA X W [e] ta) (hs : starEach [e] X.env = [(false, eval e X.env)] := by rfl) : JI X W tg (.Call (.Name "range" p) [e] [] pos) (iR1 ta) := by
  refine ⟨PI.imp (pi_range1 (c.gl hx) (by rw [c.gg]; exact hm) ha.pa hs) fun σ H R h => ?_, moR1 ha.mo⟩
  obtain ⟨Z, env, S, re, rs, q⟩ := h
  refine LA.of ha.mo re rs q (fun ds S1 vs H1 q1 a1 r1 => ?_) fun x S1 c dx H1 q1 a1 r1 => q1 c dx H1 a1 r1
  split at q1 <;> first | exact q1.elim | skip
  obtain ⟨v, rfl, r2⟩ := r1.one
  cases r2
  exact ⟨_, rfl, q1.1, q1.2.1, q1.2.2 _ H1 a1 wk_rng⟩
end

/-! ### list comprehensions -/
def wipeD (env : Ev) : List Nat → Ev
  | [] => env
  | v :: vs => (wipeD env vs).set v none
theorem RE.wipe {K : Kz} {S : Sto} {H : Hp} {env : Ev} {σ : L2.St} (re : RE K S H env σ) : ∀ vs : List Nat, RE K S H (wipeD env vs) (wipe σ vs)
  | [] => re
  | v :: vs => (RE.wipe re vs).unset v
abbrev EF : EK := fun _ _ => False
def lcGo (g : Tg) (tt : TTd) (te : TEd) (env : Ev) : List D → Sto → (List D → Sto → Prop) → Prop
  | [], S, Q => Q [] S
  | d :: ds, S, Q => match asgT S g d env with
    | some e1 => tt e1 S (fun b S1 => if b = true then te e1 S1 (fun y S2 => lcGo g tt te env ds S2 fun ys S3 => Q (y :: ys) S3) EF else lcGo g tt te env ds S1 Q) EF
    | none => False
def dLc (ti : TAd) (g : Tg) (tt : TTd) (te : TEd) (vs : List Nat) : TEd := fun env S Q E => ti env S (fun ds S1 => ds.length < sizeLine ∧ lcGo g tt te (wipeD env vs) ds S1 fun ys S2 => Q (.lst ys) S2) E
/-- the list that is made is to be grown -/
def dLcR (ti : TAd) (g : Tg) (tt : TTd) (te : TEd) (vs : List Nat) : TEd := fun env S Q E => ti env S (fun ds S1 => ds.length < sizeLine ∧ lcGo g tt te (wipeD env vs) ds S1 fun ys S2 => ∀ a, S2 a = none → Q (.ref a) (sup S2 a ys)) E
theorem moLcGo {g : Tg} {tt : TTd} {te : TEd} (ht : MoE tt) (he : MoE te) (env : Ev) : ∀ (ds : List D) (S : Sto) (Q Q' : List D → Sto → Prop), (∀ ys S, Q ys S → Q' ys S) → lcGo g tt te env ds S Q → lcGo g tt te env ds S Q'
  | [], S, Q, Q', h, q => h _ _ q
  | d :: ds, S, Q, Q', h, q => by
    unfold lcGo at q ⊢
    split at q <;> first | exact q.elim | skip
    refine ht _ _ _ _ _ _ (fun b S1 q1 => ?_) (fun _ _ z => z) q
    cases b with
    | false => exact iteF (moLcGo ht he env ds S1 Q Q' h q1)
    | true => exact iteT (he _ _ _ _ _ _ (fun y S2 q2 => moLcGo ht he env ds S2 _ _ (fun ys S3 q3 => h _ _ q3) q2) (fun _ _ z => z) q1)
theorem moLc {ti : TAd} {g : Tg} {tt : TTd} {te : TEd} {vs : List Nat} (hi : MoE ti) (ht : MoE tt) (he : MoE te) : MoE (dLc ti g tt te vs) := fun env S Q Q' E E' h hx q => hi _ _ _ _ _ _ (fun ds S1 q1 => ⟨q1.1, moLcGo ht he _ _ _ _ _ (fun ys S2 q2 => h _ _ q2) q1.2⟩) hx q
def tYesD : TTd := fun _ S Q _ => Q true S
theorem moYesD : MoE tYesD := fun env S Q Q' E E' h he q => h _ _ q
structure JTs (X : Cx) (W : WX) (ifs : List Expr) (t : TTd) : Prop where
  pt : PTs X ifs (LT X.K W t)
  mo : MoE t
abbrev W0 : WX := fun _ _ _ _ => False
theorem jts_nil {X : Cx} {W : WX} : JTs X W [] tYesD := ⟨⟨fun pins s σ H Q I h => by
  obtain ⟨Z, env, S, re, rs, q⟩ := h
  exact pts_nil.run pins s σ H Q I (q H (.refl rs))⟩, moYesD⟩
/-- the turns of a comprehension, the new list at p out of sight -/
theorem lc_run {K : Kz} {J : It} {S : Sto} {H : Hp} {g : Tg} {tt : TTd} {te : TEd} {vs : List Nat} {env : Ev} {σ : L2.St} {ds : List D} {p : Addr} {Qd : Hp → Prop} {QQ : List D → Sto → Prop} (ht : MoE tt) (he : MoE te) (hgv : ∀ i ∈ tgS g, i ∈ vs) (re : RE K S H env σ) (rs : RS K S H) (wk : WkD K S H J ds) (hp : H p = none)
    (hl : ds.length < sizeLine) (h : lcGo g tt te (wipeD env vs) ds S QQ)
    (hd : ∀ S' H' acc accD, QQ accD S' → Step S H S' H' → RS (K.more p) S' H' → H' p = some (.lst acc) → RpL (K.more p) S' H' accD acc → Qd H') :
    ∃ Wi : Nat → Nat → Hp → Prop, (∃ m, Wi 0 m (upd H p (.lst []))) ∧ ∀ i m H, Wi i m H →
      (J.stop i H ∧ Qd H) ∨ (J.go i H ∧ ∃ Nx : Hp → Prop, (∀ H', Nx H' → ∃ m', m' < m ∧ Wi (i + 1) m' H') ∧ ∀ x H', J.yld i H x H' → LG K.K g x (wipe σ vs) H' fun σ2 H2 => wipe σ2 vs = wipe σ vs ∧ LT K.K W0 tt σ2 H2 fun b H3 =>
        if b = true then LE K.K W0 te σ2 H3 fun y H4 => ∃ acc, H4 p = some (.lst acc) ∧ acc.length < sizeLine ∧ Nx (upd H4 p (.lst (acc ++ [y]))) else Nx H3) := by
  obtain ⟨G, Y, wk, hG, hY⟩ := wk
  refine lc_it wk (fun i H' => ∃ S' acc accD, H' p = some (.lst acc) ∧ RpL (K.more p) S' H' accD acc ∧ accD.length ≤ i ∧ Step S H S' H' ∧ RS (K.more p) S' H' ∧ (∀ d v, Rp K S H d v → Rp (K.more p) S' H' d v) ∧ lcGo g tt te (wipeD env vs) (ds.drop i) S' fun ys S2 => QQ (accD ++ ys) S2)
    ⟨S, [], [], upd_same, .nil, Nat.le_refl _, ⟨fun b o e n => ⟨n, by rw [upd_ne (ne_of_none e hp)]; exact e⟩, Kept.new hp⟩, rs.hide hp, fun d v r => Rp.hide hp d v r, h⟩ (fun i H' _ ⟨S', _, _, _, _, _, st, _⟩ => hG S' H' st) (fun i x H' H'' hi hPv y => ?_) fun H' hPv => ?_
  · obtain ⟨S', acc, accD, e1, rl, la, st, rs', tr, q⟩ := hPv
    obtain ⟨a2, d, ed, rd⟩ := hY (K.more p) i S' H' x H'' rfl st rs' tr hi y
    have e0 : ds.drop i = d :: ds.drop (i + 1) := by
      rw [List.drop_eq_getElem_cons hi]
      congr 1
      rw [List.getElem?_eq_getElem hi] at ed
      exact Option.some.inj ed
    rw [e0] at q
    unfold lcGo at q
    split at q <;> first | exact q.elim | skip
    rename_i env1 ee
    have re' : RE (K.more p) S' H' env σ := ⟨re.len, fun j d e => by
      obtain ⟨v, e2, r⟩ := re.at_ j d e
      exact ⟨v, e2, tr d v r⟩⟩
    have np : S' p = none := (rs'.hid p (.inr rfl)).1
    refine ⟨fun b => K.Z b ∨ b = p, wipeD env vs, S', d, env1, (re'.wipe vs).step a2.st rs', a2.rs, rd, ee, fun σ2 r2 w2 => ⟨?_, ?_⟩⟩
    · rw [w2 vs hgv]
      have z : ∀ (σ : L2.St) (vs : List Nat), wipe (wipe σ vs) vs = wipe σ vs := by
        intro σ vs
        have z2 : ∀ us : List Nat, (∀ u ∈ us, u ∈ vs) → wipe (wipe σ us) vs = wipe σ vs := by
          intro us
          induction us with
          | nil => intro _; rfl
          | cons u us ih =>
            intro hu
            show wipe ((wipe σ us).set u none) vs = _
            rw [wipe_in (hu u (by simp)), ih fun v hv => hu v (by simp [hv])]
        exact z2 vs fun _ h => h
      exact z σ vs
    refine LT.of (K := K.more p) ht r2 a2.rs q (fun b S3 H3 q3 a3 => ?_) fun x S3 c dx H3 q3 _ _ => q3
    have a23 := a2.trans a3
    have e3 : H3 p = some (.lst acc) := (a23.st.ap p _ e1 np).2
    have st3 : Step S H S3 H3 := st.trans a23.st
    cases b with
    | false =>
      refine iteF ⟨S3, acc, accD, e3, RpL.step a23.st rs' _ _ rl, Nat.le_succ_of_le la, st3, a3.rs, fun d v r => Rp.step a23.st rs' _ _ (tr d v r), q3⟩
    | true =>
      refine iteT (LE.of (K := K.more p) he (r2.step a3.st a2.rs) a3.rs q3 (fun yD S4 yv H4 q4 a4 r4 => ?_) fun x S4 c dx H4 q4 _ _ => q4)
      have a24 := a23.trans a4
      have e4 : H4 p = some (.lst acc) := (a24.st.ap p _ e1 np).2
      have lacc : acc.length ≤ i := by rw [← rl.length]; exact la
      refine ⟨acc, e4, by omega, S4, acc ++ [yv], accD ++ [yD], upd_same, ?_, ?_, ?_, a4.rs.grow e4, fun d v r => Rp.grow e4 _ _ (Rp.step a24.st rs' _ _ (tr d v r)), ?_⟩
      · exact RpL.grow e4 _ _ ((RpL.step a24.st rs' _ _ rl).append (.cons r4 .nil))
      · rw [List.length_append, List.length_singleton]; omega
      · refine ⟨fun b o e n => ?_, (st.trans a24.st).kp.trans (Kept.put e4)⟩
        obtain ⟨n1, h1⟩ := (st.trans a24.st).ap b o e n
        exact ⟨n1, by rw [upd_ne (ne_of_none e hp)]; exact h1⟩
      · simpa only [List.append_assoc, List.singleton_append] using q4
  · obtain ⟨S', acc, accD, e1, rl, la, st, rs', tr, q⟩ := hPv
    rw [List.drop_length] at q
    unfold lcGo at q
    rw [List.append_nil] at q
    exact hd S' H' acc accD q st rs' e1 rl
section
variable {P : Program} {w : World} {K : PySem.W.Frag} {mg : Str → Option Value} {base : Heap} {N : List Str} {sc : Scope} {vw : Vw} {k : Nat} {X : Cx} {W : WX}
variable {elt tg iter : Expr} {ifs : List Expr} {scope : Scope} {pos : Pos} {ti : TAd} {g : Tg} {tt : TTd} {te : TEd} {own : List (Str × Nat)} {vw2 : Vw}
/-- the block's own context -/
theorem JC.blk (c : JC P w K mg base N sc vw k X W) (s2 : Sc N (relS scope sc) vw2) (hk : scope.kind = .function) (s : Shared) (H : Hp) (C : Addr) (cl : List (Str × Addr)) (fp : List Addr) : JC P w K mg base N (relS scope sc) vw2 k (X.blk s H scope (compEnvC scope cl C X.env) fp) W0 where
  prog := c.prog
  ww := c.ww
  kk := c.kk
  gg := c.gg
  bb := c.bb
  nn := c.nn
  ss := by rw [← c.ss]; rfl
  sC := s2
  nd := c.nd
  calm := c.calm
  room := c.room
  tk := takes0
  kd := hk
  gs := c.gs
theorem lcOf (hi : JI X W tg iter ti) (ht : MoE tt) (he : MoE te) (hgv : ∀ i ∈ tgS g, i ∈ own.map (·.2)) {σ : L2.St} {H : Hp} {Q : VK} (h : LE X.K W (dLc ti g tt te (own.map (·.2))) σ H Q) : tLc (LI X.K W ti) (LG X.K g) (LT X.K W0 tt) (LE X.K W0 te) (own.map (·.2)) σ H Q := by
  obtain ⟨Z, env, S, re, rs, q⟩ := h
  refine LI.of hi.mo re rs q (fun ds S1 J H1 q1 a1 wk => ?_) fun x S1 c dx H1 q1 a1 r1 => q1 c dx H1 a1 r1
  intro p hp
  refine lc_run (K := ⟨X.K, Z⟩) ht he hgv (re.step a1.st rs) a1.rs wk hp q1.1 q1.2 fun S' H' acc accD qq st rs' e rl => ?_
  exact qq _ H' (a1.trans ⟨st, rs'.show_⟩) (Rp.made rs' e (a1.rs.nz hp) rl)
theorem je_lc (c : JC P w K mg base N sc vw k X W) (ok : blkC N sc scope own = true) (s2 : Sc N (relS scope sc) vw2) (hgv : ∀ i ∈ tgS g, i ∈ own.map (·.2)) (hi : JI X W tg iter ti)
    (hg : ∀ X2, JC P w K mg base N (relS scope sc) vw2 k X2 W0 → JG X2 tg g) (ht : ∀ X2, JC P w K mg base N (relS scope sc) vw2 k X2 W0 → JTs X2 W0 ifs tt) (he : ∀ X2, JC P w K mg base N (relS scope sc) vw2 k X2 W0 → JE X2 W0 elt te) (mt : MoE tt) (me : MoE te)
    (hs : ∀ x, foldedSetIterable iter X.env x = pure x := by intro _; rfl) : JE X W (.ListComp elt [⟨tg, iter, ifs, 0⟩] scope pos) (dLc ti g tt te (own.map (·.2))) := by
  have bo : BlkOk X.N X.env.scope scope own := by rw [c.nn, c.ss]; exact blkOk_by ok
  have jc := fun s H C cl fp => c.blk s2 bo.kind s H C cl fp
  refine ⟨PE.imp (pe_lc (own := own) c.calm (by rw [c.nn]; exact c.nd) hi.pi bo (fun s H C cl fp => (hg _ (jc s H C cl fp)).pg) (fun s H C cl fp => (ht _ (jc s H C cl fp)).pt) (fun s H C cl fp => (he _ (jc s H C cl fp)).pe) hs) fun σ H Q h => lcOf hi mt me hgv h, moLc hi.mo mt me⟩
end

/-! ### methods of lists that are grown -/
abbrev GM := Addr → List D → Sto → DK → Prop
def dLm (f : GM) (to : TEd) (ta : TAd) : TEd := fun env S Q E => to env S (fun o S1 => match o with
  | .ref a => (S1 a).isSome = true ∧ ta env S1 (fun ds S2 => f a ds S2 Q) E
  | _ => False) E
structure MtD (X : Cx) (id : String) (f : GM) : Prop where
  mo : ∀ a ds S (Q Q' : DK), (∀ d S, Q d S → Q' d S) → f a ds S Q → f a ds S Q'
  run : MtR X id fun x vs H Q => ∃ Z S a ds, x = .ref a ∧ IsL H a ∧ RS ⟨X.K, Z⟩ S H ∧ RpL ⟨X.K, Z⟩ S H ds vs ∧ f a ds S (PQ ⟨X.K, Z⟩ S H Q)
theorem moLm {f : GM} {to : TEd} {ta : TAd} (hf : ∀ a ds S (Q Q' : DK), (∀ d S, Q d S → Q' d S) → f a ds S Q → f a ds S Q') (h1 : MoE to) (h2 : MoE ta) : MoE (dLm f to ta) := fun env S Q Q' E E' h he q => h1 _ _ _ _ _ _ (fun o S1 q1 => by
  cases o <;> first | exact q1 | exact ⟨q1.1, h2 _ _ _ _ _ _ (fun ds S2 q2 => hf _ _ _ _ _ h q2) he q1.2⟩) he q
section
variable {X : Cx} {W : WX} {o e : Expr} {es : List Expr} {to : TEd} {ta : TAd} {name : Str} {apos cpos : Pos} {id : String} {f : GM}
theorem je_lm (slot : Slot "list" name id) (hty : typeOf (.builtin id) = pure (.type "method_descriptor")) (hm : MtD X id f) (ho : JE X W o to) (ha : JA X W (e :: es) ta)
    (hbase : attributeBase o name X.env (eval o X.env) = eval o X.env := by rfl)
    (hfew : ((backTo cpos (starEach (e :: es) X.env)).all (fun x => !x.1) && (backToKw cpos (keywordEach [] X.env)).all (fun x => x.1.isSome) && decide ((e :: es).length + ([] : List Keyword).length + (if ([] : List Keyword).isEmpty then 0 else 1) < 30)) = true := by rfl)
    (hline : (apos.endLine == cpos.line) = true := by rfl) (hs : starEach (e :: es) X.env = (false, eval e X.env) :: starEach es X.env := by rfl) (hplain : (backTo cpos (starEach es X.env)).any (·.1) = false := by rfl) :
    JE X W (.Call (.Attribute o name apos) (e :: es) [] cpos) (dLm f to ta) := by
  refine ⟨PE.imp (pe_bm PySem.F.plainAttrs_list slot hty hm.run ho.pe ha.pa hbase hfew hline hs hplain) fun σ H Q h => ?_, moLm hm.mo ho.mo ha.mo⟩
  obtain ⟨Z, env, S, re, rs, q⟩ := h
  refine LE.of ho.mo re rs q (fun d S1 v H1 q1 a1 r1 => ?_) fun x S1 c dx H1 q1 a1 r1 => q1 c dx H1 a1 r1
  cases d <;> first | exact q1.elim | skip
  rename_i a
  cases r1 with
  | ref _ hL =>
  obtain ⟨ds, e1⟩ := Option.isSome_iff_exists.mp q1.1
  obtain ⟨vs, hl, _⟩ := a1.rs.atL a ds e1
  refine ⟨.inl ⟨rfl, vs, SqL.of hl⟩, LA.of ha.mo (re.step a1.st rs) a1.rs q1.2 (fun ds2 S2 vs2 H2 q2 a2 r2 => ?_) fun x S2 c dx H2 q2 a2 r2 => q2 c dx H2 (a1.trans a2) r2⟩
  exact ⟨Z, S2, a, ds2, rfl, a2.st.kp.isL hL, a2.rs, r2, hm.mo _ _ _ _ _ (fun d S3 q3 => PQ.after (a1.trans a2) q3) q2⟩
def gApp : GM := fun a ds S Q => match ds with
  | [d] => match S a with
    | some xs => xs.length < sizeLine ∧ Q .non (sup S a (xs ++ [d]))
    | none => False
  | _ => False
theorem md_append : MtD X "list.append" gApp := by
  refine ⟨fun a ds S Q Q' h q => ?_, fun pins s σ H x xs v us Q I rx rv h => ?_⟩
  · unfold gApp at q ⊢
    split at q <;> first | exact q.elim | skip
    split at q <;> first | exact q.elim | exact ⟨q.1, h _ _ q.2⟩
  · obtain ⟨Z, S, a, ds, rfl, hL, rs, rl, q⟩ := h
    unfold gApp at q
    split at q <;> first | exact q.elim | skip
    split at q <;> first | exact q.elim | skip
    rename_i d _ ys e
    obtain ⟨y, rfl, r1⟩ := rl.one
    obtain ⟨vs, hl, rv2⟩ := rs.atL a ys e
    refine mt_append pins s σ H _ _ v us Q I rx rv ⟨a, vs, y, rfl, rfl, hl, by rw [← rv2.length]; exact q.1, ?_⟩
    exact q.2 _ _ (Rp.putR rs e (rv2.append (.cons r1 .nil))) .non
theorem je_append (ho : JE X W o to) (ha : JA X W [e] ta) (hbase : attributeBase o "append" X.env (eval o X.env) = eval o X.env := by rfl) (hline : (apos.endLine == cpos.line) = true := by rfl) (hs : starEach [e] X.env = (false, eval e X.env) :: starEach [] X.env := by rfl)
    (hfew : ((backTo cpos (starEach [e] X.env)).all (fun x => !x.1) && (backToKw cpos (keywordEach [] X.env)).all (fun x => x.1.isSome) && decide ([e].length + ([] : List Keyword).length + (if ([] : List Keyword).isEmpty then 0 else 1) < 30)) = true := by rfl) : JE X W (.Call (.Attribute o "append" apos) [e] [] cpos) (dLm gApp to ta) :=
  je_lm PySem.F.slot_list_append PySem.F.type_list_append md_append ho ha hbase hfew hline hs rfl
end

/-! ### raise, try -/
def sRaise (x : Str) : TSd := fun env S N => N.ex ⟨x, []⟩ env S
/-- a try whose body raises nothing -/
def sThru (t u : TSd) : TSd := fun env S N => t env S { N with nx := fun e s => u e s N, ex := fun _ _ _ => False }
theorem moThru {t u : TSd} (ht : MoS t) (hu : MoS u) : MoS (sThru t u) := fun env S A B l h => ht _ _ { A with nx := fun e s => u e s A, ex := fun _ _ _ => False } _ ⟨fun e s q => hu _ _ _ _ l q, l.rt, l.bk, l.ct, fun _ _ _ z => z⟩ h
end Bl

namespace Bl
open PySem PySem.Spec PyProof.Rows L2

/-! ### a def -/
/-- what the body makes of the arguments: n parameters, l names -/
def fnD (n l : Nat) (tb : TSd) : TFd := fun ds S Q E => ds.length = n ∧ tb (ds.map some ++ List.replicate (l - n) none) S ⟨fun _ S1 => Q .non S1, Q, fun _ _ => False, fun _ _ => False, fun x _ S1 => E x S1⟩
theorem moFn {n l : Nat} {tb : TSd} (h : MoS tb) : MoF (fnD n l tb) := fun ds S Q Q' E E' hq he q => ⟨q.1, h _ _ ⟨fun _ S1 => Q .non S1, Q, fun _ _ => False, fun _ _ => False, fun x _ S1 => E x S1⟩ _ ⟨fun _ _ z => hq _ _ z, hq, fun _ _ z => z, fun _ _ z => z, fun x _ S z => he x S z⟩ q.2⟩
section
variable {P : Program} {w : World} {K : PySem.W.Frag} {mg : Str → Option Value} {base : Heap} {N ps : List Str} {sc : Scope} {vw : Vw} {k : Nat}
/-- some context -/
theorem JD.some (sC : Sc N sc vw) (nd : N.Nodup) (hk : sc.kind = .function) (hr : Room k callerA) : ∃ X W, JD P w K mg base N sc vw k X W := by
  refine ⟨⟨P, w, K, mg, base, callerA, N, {}, fun _ => none, envOfC "" sc 0 0 .none, [], [envOfC "" sc 0 0 .none], [], fun _ => true, true, [], fun _ _ => False⟩, W0, ?_⟩
  exact { prog := rfl, ww := rfl, kk := rfl, gg := rfl, bb := rfl, nn := rfl, ss := rfl, sC := sC, nd := nd, calm := rfl, room := hr, tk := takes0, kd := hk, gs := fun _ => rfl, po := .never, fn := fun _ => rfl, hs := rfl, hf := rfl }
/-- a def's body keeps the promise -/
theorem fnOk_of {x qual : Str} {params : Arguments} {body : List Stmt} {scope : Scope} {f : Addr} {oc dV kV doc pm cdv ct : Value} {od an : Option Addr} {osl : Array (Option Value)} {tb : TSd} (lk : K.lookup f = some ⟨oc, od, .func (PySem.W.fnOf x qual params body scope dV kV doc pm an cdv ct), osl⟩) (hcd : PySem.W.codeIn K cdv qual = true)
    (S : FnScope N ps scope) (sC : Sc N scope vw) (h : ∀ X W, JD P w K mg base N scope vw k X W → JB X W body tb) (hz : gzN N = false) :
    FnOk P w K mg base (L2.CX P w) (k + 1) f (PySem.W.fnOf x qual params body scope dV kV doc pm an cdv ct) ps (LSp K ps.length (fnD ps.length N.length tb)) := by
  refine fn_of lk hcd S (fun vs H Q E h => ?_) fun A outer s H vs Q E hr hsp => ?_
  · obtain ⟨Z, ds, S, hl, r, _⟩ := h
    rw [← r.length]
    exact hl
  · obtain ⟨Z, ds, S0, hl, r, rs, _, q⟩ := hsp
    have jd : JD P w K mg base N scope vw k (cxOf (L2.CX P w) P w K mg base N qual scope f cdv A outer s H E) fun cls d _ H => E cls d H :=
      { prog := rfl, ww := rfl, kk := rfl, gg := rfl, bb := rfl, nn := rfl, ss := rfl, sC := sC, nd := S.nd, calm := rfl, room := hr, tk := takes_of rfl rfl rfl rfl, kd := S.kind, gs := fun z => absurd z (by rw [hz]; decide), po := passes_of rfl, fn := fun _ => rfl, hs := rfl, hf := rfl }
    have jb := h _ _ jd
    refine ⟨_, jb.ps, LS.of (K := ⟨K, Z⟩) jb.mo (env := ds.map some ++ List.replicate (N.length - ps.length) none) ?_ rs q ⟨fun _ S1 z σ' H' a _ => z _ H' a .non, fun d S1 z v H' a r => z v H' a r, fun _ _ z => z.elim, fun _ _ z => z.elim, fun x _ S1 z c dx σ' H' a _ rx => z c dx H' a rx⟩⟩
    have z := RE.start r (N.length - ps.length)
    unfold L2.start
    rw [← r.length, hl]
    exact z
theorem moS_of {scope : Scope} {body : List Stmt} {tb : TSd} (S : FnScope N ps scope) (sC : Sc N scope vw) (hr : Room k callerA) (h : ∀ X W, JD P w K mg base N scope vw k X W → JB X W body tb) : MoS tb := by
  obtain ⟨X, W, jd⟩ := JD.some (P := P) (w := w) (K := K) (mg := mg) (base := base) sC S.nd S.kind hr
  exact (h X W jd).mo
end

/-! ### the law -/
/-- a list of at most n ints is handed in, True comes out -/
def spLaw (K : PySem.W.Frag) (n : Nat) : Sp := fun vs H Q _ => ∃ (a : Addr) (ns : List Int), vs = [.ref a] ∧ SqL K H a (ns.map V.int) ∧ ns.length ≤ n ∧ Only H ∧ ∀ H', Q (.bl true) H'
theorem law_sp {K : PySem.W.Frag} {n : Nat} {m : TFd} (mo : MoF m) (h : ∀ ns : List Int, ns.length ≤ n → m [.lst (ns.map D.int)] (fun _ => none) (fun d _ => d = .bl true) fun _ _ => False) : ∀ vs H Q E, spLaw K n vs H Q E → LSp K 1 m vs H Q E := by
  intro vs H Q E hh
  obtain ⟨a, ns, rfl, hS, hl, ho, q⟩ := hh
  have r : Rp ⟨K, fun _ => False⟩ (fun _ => none) H (.lst (ns.map D.int)) (.ref a) := by
    rcases hS with hS | hS
    · exact .lst hS rfl (fun z => z) RpL.ints
    · exact .lstK hS RpL.ints
  refine ⟨fun _ => False, [.lst (ns.map D.int)], fun _ => none, rfl, .cons r .nil, ⟨fun _ _ e => (nomatch e), fun _ hb => False.elim hb⟩, mo _ _ _ _ _ _ (fun d S1 e v H' a2 r2 => ?_) (fun x S1 z => z.elim) (h ns hl)⟩
  subst e
  cases r2
  exact q H'
end Bl

namespace Bl
open PySem PySem.Spec PyProof.Rows L2

/-! ### n.bit_length() -/
def dBits (t : TEd) : TEd := fun env S Q E => t env S (fun d S' => match d with | .int i => Q (.int (Builtin.Int.intBits i : Nat)) S' | _ => False) E
theorem moBits {t : TEd} (h : MoE t) : MoE (dBits t) := fun env S Q Q' E E' hq he q => h _ _ _ _ _ _ (fun d S1 q1 => by
  cases d <;> first | exact hq _ _ q1 | exact q1) he q
section
variable {X : Cx} {W : WX} {o : Expr} {to : TEd} {apos pos : Pos}
theorem je_bits (ho : JE X W o to) (hbase : attributeBase o "bit_length" X.env (eval o X.env) = eval o X.env := by rfl) (hline : (apos.endLine == pos.line) = true := by rfl) : JE X W (.Call (.Attribute o "bit_length" apos) [] [] pos) (dBits to) := by
  refine ⟨PE.imp (pe_bits ho.pe hbase hline) fun σ H Q h => ?_, moBits ho.mo⟩
  obtain ⟨Z, env, S, re, rs, q⟩ := h
  refine LE.of ho.mo re rs q (fun d S1 x H1 q1 a1 r1 => ?_) fun x S1 c dx H1 q1 a1 r1 => q1 c dx H1 a1 r1
  cases d <;> first | exact q1.elim | skip
  cases r1
  exact ⟨_, rfl, q1 _ H1 a1 (.int _)⟩
end

/-! ### sorted, of whole numbers -/
/-! ### a op= b -/
def fIadd : F2 := fun x y S Q => match x, y with
  | .int i, .int j => Q (.int (i + j)) S
  | .str i, .str j => i.length + j.length ≤ sizeLine ∧ Q (.str (i ++ j)) S
  | _, _ => False
theorem moIadd : MoF2 fIadd := by (intro x y S Q Q' h q; unfold fIadd at q ⊢; split at q <;> first | exact h _ _ q | exact ⟨q.1, h _ _ q.2⟩ | exact ⟨q.1, q.2.1, h _ _ q.2.2⟩ | exact q.elim)
section
variable {X : Cx}
theorem opD_iadd : OpD X (inplaceOp .Add) fIadd := by
  refine ⟨moIadd, fun pins s σ H x y v u Q Z S dx dy I rx ry rs r1 r2 h => ?_⟩
  cases r1 <;> cases r2 <;> first | exact h.elim | skip
  · exact iop_add pins s σ H _ _ v u Q I rx ry ⟨_, _, rfl, rfl, h _ H (.refl rs) (.int _)⟩
  · exact iop_add_str pins s σ H _ _ v u Q I rx ry ⟨_, _, rfl, rfl, h.1, h.2 _ H (.refl rs) (.str _)⟩
end

/-! ### a try that is run through -/
section
variable {P : Program} {w : World} {K : PySem.W.Frag} {mg : Str → Option Value} {base : Heap} {N : List Str} {sc : Scope} {vw : Vw} {k : Nat} {X : Cx} {W : WX}
theorem JD.nox (d : JD P w K mg base N sc vw k X W) : JD P w K mg base N sc vw k X.nox W0 :=
  { prog := d.prog, ww := d.ww, kk := d.kk, gg := d.gg, bb := d.bb, nn := d.nn, ss := d.ss, sC := d.sC, nd := d.nd, calm := d.calm, room := d.room, tk := takes0, kd := d.kd, gs := d.gs, po := .never, fn := d.fn, hs := d.hs, hf := d.hf }
theorem js_thru {body : List Stmt} {h₀ : ExceptHandler} {hs : List ExceptHandler} {t : TSd} {pos : Pos} (d : JD P w K mg base N sc vw k X W) (hb : ∀ X2 W2, JD P w K mg base N sc vw k X2 W2 → JB X2 W2 body t) : JS X W (.Try body (h₀ :: hs) [] [] pos) (sThru t sNx) := by
  have jb := hb _ _ d.nox
  refine ⟨PS.imp (ps_try_thru0 jb.ps) fun N σ H h => ?_, moThru jb.mo moNx⟩
  obtain ⟨Z, env, S, re, rs, q⟩ := h
  exact LS.of (K := ⟨X.K, Z⟩) jb.mo re rs q ⟨fun _ _ z => z, fun _ _ z => z, fun _ _ z => z, fun _ _ z => z, fun _ _ _ z => z.elim⟩
end

/-! ### constants of the module -/
/-! ### defs with defaults -/
section
variable {P : Program} {w : World} {K : PySem.W.Frag} {mg : Str → Option Value} {base : Heap} {N ps : List Str} {vw : Vw} {k : Nat}
end
end Bl

namespace Bl
open PySem PySem.Spec PyProof.Rows L2

/-! ### pairs stored from the right -/
theorem blk_fn {env : Env} (h : env.scope.kind = .function) : env.blockKind = .function := by unfold Env.blockKind; rw [h]; rfl
def isStar : Expr → Bool
  | .Starred .. => true
  | _ => false
def swNm (env : Env) (line : Nat) : Expr → Option Str
  | .Name id pos => if env.kindOf id == some .local && pos.line == line then some id else none
  | _ => none
theorem sw_eq {ts vs : List Expr} {kt k2 : Nat} {pt pt2 : Pos} {env : Env} (hk : env.scope.kind = .function) (hl : ts.length = 2 ∨ ts.length = 3) (hv : vs.length = ts.length) (hs : vs.any isStar = false) :
    swappedStores [.Tuple ts kt pt] (.Tuple vs k2 pt2) env = (do
      let names := ts.filterMap (swNm env ((ts.head?.map (·.pos.line)).getD 0))
      if names.length != ts.length || names.eraseDups.length != names.length then return none
      if vs.all (foldedForSure 8) then return none
      if vs.all (constantsAlone 8) then unsupported "assign.tuple-of-constant-expressions:order-of-the-stores"
      return some names) := by
  have e1 : (!(ts.length == 2 || ts.length == 3) || vs.length != ts.length || env.blockKind != .function) = false := by
    rw [blk_fn hk, hv]
    rcases hl with h | h <;> rw [h] <;> rfl
  unfold swappedStores
  show (if (!(ts.length == 2 || ts.length == 3) || vs.length != ts.length || env.blockKind != .function) = true then (pure none : Sem (Option (List Str))) else if vs.any isStar = true then pure none else _) = _
  rw [e1, hs]
  rfl
theorem sw2 {x y : Str} {p q : Expr} {px py pt pt2 : Pos} {kt k2 : Nat} {env : Env} (hk : env.scope.kind = .function) (hx : env.scope.names.lookup x = some .local) (hy : env.scope.names.lookup y = some .local) (hl : (py.line == px.line) = true) (hne : (y == x) = false)
    (hs : [p, q].any isStar = false) (hf : [p, q].all (foldedForSure 8) = false) (hc : [p, q].all (constantsAlone 8) = false) : swappedStores [.Tuple [.Name x px, .Name y py] kt pt] (.Tuple [p, q] k2 pt2) env = pure (some [x, y]) := by
  rw [sw_eq (ts := [.Name x px, .Name y py]) (vs := [p, q]) hk (.inl rfl) rfl hs]
  have kx : env.kindOf x = some .local := hx
  have ky : env.kindOf y = some .local := hy
  have e1 : (some NameKind.local == some NameKind.local) = true := rfl
  have e : [Expr.Name x px, .Name y py].filterMap (swNm env px.line) = [x, y] := by
    simp only [List.filterMap_cons, List.filterMap_nil, swNm, kx, ky, e1, hl, beq_self_eq_true, Bool.and_self, if_true]
  show (do
      let names := [Expr.Name x px, .Name y py].filterMap (swNm env px.line)
      if names.length != 2 || names.eraseDups.length != names.length then return none
      if [p, q].all (foldedForSure 8) then return none
      if [p, q].all (constantsAlone 8) then unsupported "assign.tuple-of-constant-expressions:order-of-the-stores"
      return some names) = _
  rw [e, hf, hc]
  have e5 : [x, y].eraseDups.length = 2 := by simp [List.eraseDups_cons, hne]
  simp only [e5]
  rfl
theorem sw3 {x y z : Str} {p q r : Expr} {px py pz pt pt2 : Pos} {kt k2 : Nat} {env : Env} (hk : env.scope.kind = .function) (hx : env.scope.names.lookup x = some .local) (hy : env.scope.names.lookup y = some .local) (hz : env.scope.names.lookup z = some .local) (hl : (py.line == px.line) = true) (hl2 : (pz.line == px.line) = true) (hne : (y == x) = false) (hne2 : (z == x) = false) (hne3 : (z == y) = false)
    (hs : [p, q, r].any isStar = false) (hf : [p, q, r].all (foldedForSure 8) = false) (hc : [p, q, r].all (constantsAlone 8) = false) : swappedStores [.Tuple [.Name x px, .Name y py, .Name z pz] kt pt] (.Tuple [p, q, r] k2 pt2) env = pure (some [x, y, z]) := by
  rw [sw_eq (ts := [.Name x px, .Name y py, .Name z pz]) (vs := [p, q, r]) hk (.inr rfl) rfl hs]
  have kx : env.kindOf x = some .local := hx
  have ky : env.kindOf y = some .local := hy
  have kz : env.kindOf z = some .local := hz
  have e1 : (some NameKind.local == some NameKind.local) = true := rfl
  have e : [Expr.Name x px, .Name y py, .Name z pz].filterMap (swNm env px.line) = [x, y, z] := by
    simp only [List.filterMap_cons, List.filterMap_nil, swNm, kx, ky, kz, e1, hl, hl2, beq_self_eq_true, Bool.and_self, if_true]
  show (do
      let names := [Expr.Name x px, .Name y py, .Name z pz].filterMap (swNm env px.line)
      if names.length != 3 || names.eraseDups.length != names.length then return none
      if [p, q, r].all (foldedForSure 8) then return none
      if [p, q, r].all (constantsAlone 8) then unsupported "assign.tuple-of-constant-expressions:order-of-the-stores"
      return some names) = _
  rw [e, hf, hc]
  have e5 : [x, y, z].eraseDups.length = 3 := by simp [List.eraseDups_cons, hne, hne2, hne3]
  simp only [e5]
  rfl
/-- a target that is no local's name -/
theorem sw_n {ts vs : List Expr} {kt k2 : Nat} {pt pt2 : Pos} {env : Env} (hk : env.scope.kind = .function) (hl : ts.length = 2 ∨ ts.length = 3) (hv : vs.length = ts.length) (hs : vs.any isStar = false) {e : Expr} (he : e ∈ ts) (hn : ∀ l, swNm env l e = none) : swappedStores [.Tuple ts kt pt] (.Tuple vs k2 pt2) env = pure none := by
  rw [sw_eq hk hl hv hs]
  have z : (ts.filterMap (swNm env ((ts.head?.map (·.pos.line)).getD 0))).length ≠ ts.length := by
    intro h
    have : ∀ (us : List Expr) (f : Expr → Option Str), (us.filterMap f).length = us.length → ∀ e ∈ us, f e ≠ none := by
      intro us f
      induction us with
      | nil => intro _ e h; cases h
      | cons u us ih =>
        intro h e he
        rw [List.filterMap_cons] at h
        have l1 := List.length_filterMap_le f us
        cases q : f u with
        | none => rw [q] at h; simp only [List.length_cons] at h; omega
        | some v =>
          rw [q] at h
          simp only [List.length_cons] at h
          rcases List.mem_cons.mp he with rfl | he
          · rw [q]; exact fun z => nomatch z
          · exact ih (by omega) e he
    exact this ts _ h e he (hn _)
  dsimp only
  have z2 : ((ts.filterMap (swNm env ((ts.head?.map (·.pos.line)).getD 0))).length != ts.length) = true := by simpa using z
  rw [z2]
  rfl
section
variable {P : Program} {w : World} {K : PySem.W.Frag} {mg : Str → Option Value} {base : Heap} {N ps : List Str} {vw : Vw} {k : Nat} {X : Cx} {W : WX}
/-! ### defs by their data -/
/-- no defaults by places, called by places -/
theorem jf_mkN {x qual : Str} {params : Arguments} {body : List Stmt} {scope : Scope} {kws : List (Str × V)} {f : Addr} {fd : FuncData} {tb : TSd} (F : FunD K x qual params body scope [] kws f fd) (S : FnScope N ps scope) (sC : Sc N scope vw) (mgx : mg x = some (.ref f)) (hr : Room k callerA)
    (hb : ∀ (kV doc pm : Value) (an : Option Addr) (cdv ct : Value) (us : List Value), us.length = ps.length → bindArgs (PySem.W.fnOf x qual params body scope .none kV doc pm an cdv ct) ⟨us, []⟩ = pure (ps.zip us))
    (h : ∀ X W, JD P w K mg base N scope vw k X W → JB X W body tb) (hz : gzN N = false := by first | rfl | decide +kernel) : JF P w K mg base x ps.length [] (fun ds _ => ds) (k + 1) (fnD ps.length N.length tb) := by
  obtain ⟨oc, od, dV, kV, doc, pm, an, cdv, ct, osl, rfl, lk, hcd, hD, _⟩ := F.ex
  rcases hD with ⟨_, rfl⟩ | ⟨e, _⟩
  · refine ⟨⟨f, _, ps, fun us _ => us, fun vs _ => vs, mgx, F.kp, fnOk_of lk hcd S sC h hz, ⟨fun s us ws _ l1 l2 => ?_, fun r _ => r⟩, fun Z S H ds zs vs ws r _ l1 _ => ⟨r, l1⟩⟩, moFn (moS_of S sC hr h)⟩
    exact .of_eq (hb kV doc pm an cdv ct us l1)
  · exact absurd rfl e
/-- with defaults by places; of np values the defaults behind the first j fill up -/
theorem jf_mkF {x qual : Str} {params : Arguments} {body : List Stmt} {scope : Scope} {dvs : List V} {kws : List (Str × V)} {f : Addr} {fd : FuncData} {tb : TSd} (np j : Nat) (dds : List D) (F : FunD K x qual params body scope dvs kws f fd) (S : FnScope N ps scope) (sC : Sc N scope vw) (mgx : mg x = some (.ref f)) (hr : Room k callerA)
    (hd : dvs ≠ []) (hn : np + (dvs.length - j) = ps.length) (hdd : ∀ Z S H, RpL ⟨K, Z⟩ S H dds (dvs.drop j))
    (hb : ∀ (T : Addr) (kV doc pm : Value) (an : Option Addr) (cdv ct : Value) (us its : List Value), us.length = np → its.length = dvs.length →
      ∃ k, bindArgs (PySem.W.fnOf x qual params body scope (.ref T) kV doc pm an cdv ct) ⟨us, []⟩ = seqItems? (.ref T) >>= k ∧ k (some its.toArray) = pure (ps.zip (us ++ its.drop j)))
    (h : ∀ X W, JD P w K mg base N scope vw k X W → JB X W body tb) (hz : gzN N = false := by first | rfl | decide +kernel) : JF P w K mg base x np [] (fun ds _ => ds ++ dds) (k + 1) (fnD ps.length N.length tb) := by
  obtain ⟨oc, od, dV, kV, doc, pm, an, cdv, ct, osl, rfl, lk, hcd, hD, _⟩ := F.ex
  rcases hD with ⟨e, _⟩ | ⟨_, T, o, its, m, rfl, lT, oT, rT⟩
  · exact absurd e hd
  · refine ⟨⟨f, _, ps, fun us _ => us ++ its.drop j, fun vs _ => vs ++ dvs.drop j, mgx, F.kp, fnOk_of lk hcd S sC h hz, ⟨fun s us ws X l1 l2 => ?_, fun {vs us zs ws} r1 r2 => r1.append (rT.drop j)⟩, fun Z S H ds zs vs ws r _ l1 _ => ⟨r.append (hdd _ _ _), ?_⟩⟩, moFn (moS_of S sC hr h)⟩
    · obtain ⟨k, e1, e2⟩ := hb T kV doc pm an cdv ct us its l1 rT.length.symm
      refine BindsTo.of_looks fun M => ?_
      show PySem.W.Looks M s.heap (bindArgs _ ⟨us, []⟩) _
      rw [e1]
      exact looks_items X lT oT (.of_pure e2)
    · rw [List.length_append, l1, (hdd Z S H).length, List.length_drop, hn]
theorem mm {α : Type} {l : List α} {a : α} (j : Nat) (h : l[j]? = some a := by rfl) : a ∈ l := List.mem_of_getElem? h
/-- what the top tells: facts, defs, one thing more -/
structure Tp (fa : List He.Fa) (fn : List He.DefD) (bx : PySem.W.Frag → Bool) (K : PySem.W.Frag) (mg : Str → Option Value) : Prop where
  sy : He.SaysD fa fn K
  bx : bx K = true
  gl : ∀ x, (He.Fa.glo x).ok K = true → mg x = some (.ref (He.ga K x))
  fr : ∀ x, (He.Fa.free x).ok K = true → mg x = none
section
variable {fa : List He.Fa} {fn : List He.DefD} {bx : PySem.W.Frag → Bool}
theorem Tp.mk' {h : Heap} (X : K.In h) (G : h.Ns mainGlobals mg) (c : He.SaysD fa fn K ∧ bx K = true) : Tp fa fn bx K mg := ⟨c.1, c.2, fun _ q => He.glo_ok X G q, fun _ q => He.free_ok X G q⟩
theorem Tp.glo (T : Tp fa fn bx K mg) (i : Nat) {x : Str} (h : fa[i]? = some (.glo x) := by rfl) : mg x = some (.ref (He.ga K x)) := T.gl x (T.sy.fact i h)
theorem Tp.free (T : Tp fa fn bx K mg) (i : Nat) {x : Str} (h : fa[i]? = some (.free x) := by rfl) : mg x = none := T.fr x (T.sy.fact i h)
end
/-- a tuple of the top, of whole numbers -/
def tupI (K : PySem.W.Frag) (x : Str) (ns : List Int) : Bool := He.tupB K x (ns.map He.Dv.int)
theorem gc_tupI {x : Str} {ns : List Int} (hm : mg x = some (.ref (He.ga K x))) (h : tupI K x ns = true) : GC K mg x (.tup (ns.map D.int)) := by
  refine ⟨_, .ref (He.ga K x), hm, rfl, fun Z S H => .tup (He.tupB_ok h H) ?_⟩
  rw [List.map_map]
  exact RpL.ints
end

/-! ### the head's reading -/
def hookX (n : Nat) (fa : List He.Fa) (fn : List He.DefD) (bx : PySem.W.Frag → Bool) : PySem.W.Hook where
  α := Bool × He.AlD
  obs := fun s => (bx (He.frG s.heap.get? (He.asD s.heap.get? n)), He.obsDG n fa fn s.heap.get?)
  val := fun _ => (true, He.valD fn)
  says := fun _ h => ∃ K : PySem.W.Frag, K.In h ∧ He.SaysD fa fn K ∧ bx K = true
  of := fun _ _ e => ⟨_, He.frG_in, congrArg (fun z : Bool × He.AlD => z.2) e, congrArg (fun z : Bool × He.AlD => z.1) e⟩
  keeps := fun _ _ _ ⟨K, hK, c⟩ k => ⟨K, PySem.W.Frag.In.keeps hK k, c⟩
def obX (n : Nat) (fa : List He.Fa) (fn : List He.DefD) (bx : PySem.W.Frag → Bool) (s : PySem.W.SharedT) : Bool × He.AlD := (bx (He.frG (HandSHeadRun.getT s) (He.asD (HandSHeadRun.getT s) n)), He.obsDG n fa fn (HandSHeadRun.getT s))
theorem obX_eq {n : Nat} {fa : List He.Fa} {fn : List He.DefD} {bx : PySem.W.Frag → Bool} (s : PySem.W.SharedT) : obX n fa fn bx s = (hookX n fa fn bx).obs s.abs := by
  have e : HandSHeadRun.getT s = s.abs.heap.get? := funext (HandSHeadRun.getT_eq s)
  unfold obX
  rw [e]
  rfl
end Bl

namespace Bl
open PySem PySem.Spec PyProof.Rows L2
/-! ### monotony by shape -/
end Bl

namespace Bl
open PySem PySem.Spec PyProof.Rows L2
/-! ### within an except suite: no calls of defs, nothing is raised -/
structure JC0 (K : PySem.W.Frag) (mg : Str → Option Value) (N : List Str) (sc : Scope) (vw : Vw) (X : Cx) : Prop where
  kk : X.K = K
  gg : X.mg = mg
  nn : X.N = N
  ss : X.env.scope = sc
  sC : Sc N sc vw
  nd : N.Nodup
  gs : gzN N = true → X.A.guards = some []
  un : X.A.units + 65 < cLine
section
variable {K : PySem.W.Frag} {mg : Str → Option Value} {N : List Str} {sc : Scope} {vw : Vw} {X : Cx} {W : WX}
theorem JC0.gl (c : JC0 K mg N sc vw X) {x : Str} (h : x ∈ vw.gs) : Gl X x := by
  show X.env.scope.names.lookup x = some .globalImplicit
  rw [c.ss]
  exact (c.sC.gl x h).1
theorem jv0 (c : JC0 K mg N sc vw X) (i : Nat) {x : Str} {pos : Pos} (hi : i ∈ vw.vl) (hN : N[i]? = some x) : JE X W (.Name x pos) (vr i) := by
  obtain ⟨v1, v2, v3⟩ := c.sC.vis i hi x hN
  refine ⟨PE.imp (pe_var (i := i) (by rw [c.nn]; exact hN) (by rw [c.ss]; exact v1) v2 v3) fun σ H Q h => ?_, moVr i⟩
  obtain ⟨Z, env, S, re, rs, q⟩ := h
  unfold vr at q
  split at q
  · rename_i d e
    obtain ⟨v, e1, r⟩ := re.at_ i d e
    exact ⟨v, e1, q v H (.refl rs) r⟩
  · exact q.elim
theorem js_set0 (c : JC0 K mg N sc vw X) (j : Nat) {x : Str} {e : Expr} {te : TEd} {pos pos' : Pos} (hi : N[j]? = some x) (hx : j ∈ vw.lo) (he : JE X W e te) (hs : swapsWith e (some (.Name x pos')) pos.line X.env = pure false := by rfl) : JS X W (.Assign [.Name x pos'] e pos) (sAsg te (.nm j)) := by
  have hl := c.sC.loc j hx x hi
  have hl2 : X.env.scope.names.lookup x = some .local := by rw [c.ss]; exact hl
  refine ⟨PS.imp (ps_set (i := j) (by rw [c.nn]; exact c.nd) (by rw [c.nn]; exact hi) (.inl hl2) he.pe hs (.inr hl2)) fun N σ H h => ?_, moAsg he.mo⟩
  obtain ⟨Z, env, S, re, rs, q⟩ := h
  refine LE.of he.mo re rs q (fun d S1 v H1 q1 a1 r1 => ?_) fun x S1 c dx H1 q1 a1 r1 => exS re rs q1 a1 r1
  unfold asgT at q1
  exact q1 _ H1 a1 ((re.step a1.st rs).set r1 j)
end
/-! ### isinstance of the one that is held -/
/-- a class by its name -/
def JCl (K : PySem.W.Frag) (mg : Str → Option Value) (x : Str) (u : Value) : Prop := (∃ C, mg x = some (.ref C) ∧ u = .ref C) ∨ (mg x = none ∧ ∃ T, bootBuiltins x = some (.type T) ∧ u = .type T)
def vOfU : Value → V
  | .ref C => .ref C
  | .type T => .ty T
  | _ => .non
section
variable {K : PySem.W.Frag} {mg : Str → Option Value} {N : List Str} {sc : Scope} {vw : Vw} {X : Cx} {W : WX}
theorem pe_cl (c : JC0 K mg N sc vw X) {x : Str} {u : Value} {pos : Pos} (hx : x ∈ vw.gs) (h : JCl K mg x u) : PE X (.Name x pos) (tC (vOfU u)) := by
  rcases h with ⟨C, h, rfl⟩ | ⟨h, T, hT, rfl⟩
  · exact pe_glob (c.gl hx) (by rw [c.gg]; exact h) rfl (c.sC.gl x hx).2.2
  · exact pe_bltn (v := .ty T) (c.gl hx) (by rw [c.gg]; exact h) hT rfl (c.sC.gl x hx).2.1 (c.sC.gl x hx).2.2
theorem relU {K : PySem.W.Frag} {mg : Str → Option Value} {x : Str} {u w : Value} (h : JCl K mg x u) (r : RelV (vOfU u) w) : w = u := by
  rcases h with ⟨C, _, rfl⟩ | ⟨_, T, _, rfl⟩
  · exact r
  · exact r
/-- the suite's context: a of the class D -/
structure JX (K : PySem.W.Frag) (mg : Str → Option Value) (N : List Str) (sc : Scope) (vw : Vw) (a Dc : Addr) (X : Cx) : Prop extends JC0 K mg N sc vw X where
  xc : ∃ (X0 : Cx) (oe : Obj) (pn : List (Addr × Obj)), X = X0.suite a ((a, oe) :: pn) ∧ Zc (.ref Dc) none oe ∧ ∃ vs, oe.data = .fields vs
/-- the classes by their names, as arguments -/
structure PCls (X : Cx) (es : List Expr) (us : List Value) : Prop where
  pa : ∃ ta, PA X es ta ∧ (∀ σ H (Q : List V → Hp → Prop), Q (us.map vOfU) H → ta σ H Q)
  rel : ∀ ws, Vals (us.map vOfU) ws → ws = us
theorem pcls_nil {X : Cx} : PCls X [] [] := ⟨⟨_, pa_nil, fun σ H Q q => q⟩, fun ws r => by cases r; rfl⟩
theorem pcls_cons (c : JC0 K mg N sc vw X) {x : Str} {u : Value} {p : Pos} {es : List Expr} {us : List Value} (hx : x ∈ vw.gs) (h : JCl K mg x u) (r : PCls X es us) (he : starEach (.Name x p :: es) X.env = (false, eval (.Name x p) X.env) :: starEach es X.env := by rfl) : PCls X (.Name x p :: es) (u :: us) := by
  obtain ⟨ta, h1, h2⟩ := r.pa
  refine ⟨⟨_, pa_cons (pe_cl c hx h) h1 he, fun σ H Q q => h2 σ H _ q⟩, fun ws rw => ?_⟩
  cases rw with
  | cons r1 r2 => rw [relU h r1, r.rel _ r2]
end

/-! ### try, except C as n -/
def ndS (i : Nat) (N : Nd) : Nd := ⟨fun e s => N.nx (e.set i none) s, N.rt, fun e s => N.bk (e.set i none) s, fun e s => N.ct (e.set i none) s, fun _ _ _ => False⟩
/-- sb: of each class that may fly, whether the clause takes it -/
def ndT (sb : Str → Option Bool) (i : Nat) (u : Addr → Str → TSd) (N : Nd) : Nd := ⟨N.nx, N.rt, N.bk, N.ct, fun x e S1 => match sb x.nm with
  | some true => x.fs = [] ∧ ∀ a, u a x.nm (e.set i (some (.obj a))) S1 (ndS i N)
  | some false => N.ex x e S1
  | none => False⟩
def sTryAs (t : TSd) (sb : Str → Option Bool) (i : Nat) (u : Addr → Str → TSd) : TSd := fun env S N => t env S (ndT sb i u N)
section
variable {P : Program} {w : World} {K : PySem.W.Frag} {mg : Str → Option Value} {base : Heap} {N : List Str} {sc : Scope} {vw : Vw} {k : Nat} {X : Cx} {W : WX}
end

/-! ### what the head tells of exceptions -/
def excCB (K : PySem.W.Frag) (D : Addr) : Bool := He.eqO (PySem.W.findIn K (.ref D) "__getattribute__") (some (some (.builtin "BaseException.__getattribute__"))) && (He.eqO (PySem.W.findIn K (.ref D) "__getattr__") (some none) && (decide (PySem.W.subIn K (.ref D) (.type "BaseException") = some true) && (PySem.W.hasDictIn K D && (He.eqO (PySem.W.findIn K (.ref D) "__class__") (some (some (.builtin "object.__class__"))) &&
  (He.eqO (PySem.W.specialIn K (.builtin "object.__class__") "__get__") (some (some (.builtin "getset_descriptor.__get__"))) && (decide (PySem.W.takesIn K (.builtin "object.__class__") = some true) && decide (PySem.W.mroIn K D (.type "object") = some true)))))))
theorem excC_ok {K : PySem.W.Frag} {D : Addr} (h : excCB K D = true) : ExcC K D := by
  obtain ⟨h1, h⟩ := He.ba h
  obtain ⟨h2, h⟩ := He.ba h
  obtain ⟨h3, h⟩ := He.ba h
  obtain ⟨h4, h⟩ := He.ba h
  obtain ⟨h5, h⟩ := He.ba h
  obtain ⟨h6, h⟩ := He.ba h
  obtain ⟨h7, h8⟩ := He.ba h
  exact ⟨He.eqO_ok h1, He.eqO_ok h2, of_decide_eq_true h3, h4, He.eqO_ok h5, He.eqO_ok h6, of_decide_eq_true h7, of_decide_eq_true h8⟩
/-- a class's value by its name -/
def clU (K : PySem.W.Frag) (x : Str) : Value := match PySem.W.nsIn K mainGlobals x with
  | some (some (.ref C)) => .ref C
  | _ => match bootBuiltins x with
    | some (.type T) => .type T
    | _ => .none
theorem clU_own {K : PySem.W.Frag} {mg : Str → Option Value} {x : Str} (c : (He.Fa.glo x).ok K = true) (hm : mg x = some (.ref (He.ga K x))) : JCl K mg x (clU K x) := by
  have e : PySem.W.nsIn K mainGlobals x = some (some (.ref (He.ga K x))) := He.eqO_ok c
  refine .inl ⟨_, hm, ?_⟩
  unfold clU
  rw [e]
theorem clU_blt {K : PySem.W.Frag} {mg : Str → Option Value} {x : Str} {T : String} (c : (He.Fa.free x).ok K = true) (hm : mg x = none) (hb : bootBuiltins x = some (.type T)) : JCl K mg x (clU K x) := by
  have e : PySem.W.nsIn K mainGlobals x = some none := He.eqO_ok c
  refine .inr ⟨hm, T, hb, ?_⟩
  unfold clU
  rw [e, hb]
def kitB (K : PySem.W.Frag) (D : Str) (xs : List Str) (b : Bool) : Bool := decide (PySem.W.kitAny K (.ref (He.ga K D)) (xs.map (clU K)) = some b)
def kit1B (K : PySem.W.Frag) (D x : Str) (b : Bool) : Bool := decide (PySem.W.kitOne K (.ref (He.ga K D)) (clU K x) = some b)
theorem ga_eq {K : PySem.W.Frag} {x : Str} {D : Addr} (h : PySem.W.nsIn K mainGlobals x = some (some (.ref D))) : He.ga K x = D := by
  unfold He.ga
  rw [h]

/-! ### keyword-only defaults that fill up -/
section
variable {P : Program} {w : World} {K : PySem.W.Frag} {mg : Str → Option Value} {base : Heap} {N ps : List Str} {vw : Vw} {k : Nat}
end

section
variable {P : Program} {w : World} {K : PySem.W.Frag} {mg : Str → Option Value} {base : Heap} {N : List Str} {sc : Scope} {vw : Vw} {k : Nat} {X : Cx} {W : WX}
end
theorem all_at {l : List (PySem.W.Frag → Bool)} {K : PySem.W.Frag} (h : (l.all fun f => f K) = true) (i : Nat) {f : PySem.W.Frag → Bool} (e : l[i]? = some f) : f K = true := List.all_eq_true.mp h f (List.mem_of_getElem? e)
/-- one class alone may fly -/
def sbOne (x : Str) : Str → Option Bool := fun nm => if nm = x then some true else none
theorem sbOne_eq {x nm : Str} {b : Bool} (h : sbOne x nm = some b) : nm = x ∧ b = true := by
  unfold sbOne at h
  split at h
  · exact ⟨by assumption, (Option.some.inj h).symm⟩
  · cases h
end Bl

/-! a, *b, c = xs -/
namespace Bl
open PySem PySem.Spec PyProof.Rows L2
section
variable {prog : Program} {w : World} {A : Around} {E : Value → Shared → Prop} {s : Shared}
theorem walks_off {I ax : Addr} {n : Nat} {P : Nat → Value → Prop} {St : Nat → Heap → Prop} (W : Walks prog w A I [I, ax] [I] n P St) (i : Nat) (hi : i ≤ n) : Walks prog w A I [I, ax] [I] (n - i) (fun j v => P (i + j) v) (fun j h => St (i + j) h) where
  sub := W.sub
  frame := fun j h h' st k => W.frame (i + j) h h' st k
  item := fun j s Q E hj st hQ => W.item (i + j) s Q E (by omega) st fun v h' tk hp st' k => hQ v h' tk hp st' k
  done := fun s Q E st hQ => W.done s Q E (by have z : i + (n - i) = n := by omega
                                              rw [z] at st; exact st) hQ
  self := fun j s Q E st hQ => W.self (i + j) s Q E st hQ
theorem collect_off {T : String} (hT : T = "list_iterator" ∨ T = "tuple_iterator") {I ax : Addr} {items : Array Value} {St : Nat → Heap → Prop} (W : Walks prog w A.in1 I [I, ax] [I] items.size (fun j v => items[j]? = some v) St) (ht : ∀ j (s : Shared), St j s.heap → s.TypeIs (.ref I) T) (i : Nat) (hi : i ≤ items.size) (st : St i s.heap) (hI : I < s.heap.objs.size) (hax : ax < s.heap.objs.size) (hsz : items.size ≤ sizeLine) {Q : List Value → Shared → Prop}
    (hQ : ∀ h' tk, (∀ b o, b ≠ I → s.heap.get? b = some o → h'.get? b = some o) → Q (items.toList.drop i) { s with heap := h', toks := tk }) : wpAny (model prog w) A (collect (.ref I)) Q E s := by
  refine wpAny_collect_iter (T := T) (by rcases hT with h | h <;> simp [h]) (walks_off W i hi).toS (fun j s h => ht _ s h) st (fun b hb => ?_) (List.mem_cons_self ..) (fun s' acc hm ha => ?_) (by omega)
  · rcases List.mem_cons.mp hb with rfl | hb
    · exact hI
    · rw [List.mem_singleton.mp hb]; exact hax
  · have e : acc.toList = items.toList.drop i := by
      apply List.ext_getElem?
      intro j
      rw [List.getElem?_drop, Array.getElem?_toList, Array.getElem?_toList]
      by_cases hj : j < acc.size
      · have h1 : acc[j]? = some acc[j] := by simp [hj]
        rw [h1, ha.2 j _ h1]
      · have := ha.1
        rw [Array.getElem?_eq_none (by omega), Array.getElem?_eq_none (by omega)]
    rw [e, Moved.eq_with hm]
    exact hQ _ _ fun b o hb h => hm.heap b o (fun z => hb (List.mem_singleton.mp z)) h
theorem star_rest {I : Addr} {items : Array Value} {i aft : Nat} {Q : List Value → Shared → Prop} (hle : i + aft ≤ items.size) (hsz : items.size ≤ sizeLine)
    (hc : ∀ {R : List Value → Shared → Prop}, (∀ h' tk, (∀ b o, b ≠ I → s.heap.get? b = some o → h'.get? b = some o) → R (items.toList.drop i) { s with heap := h', toks := tk }) → wpAny (model prog w) A (collect (.ref I)) R E s)
    (hQ : ∀ (h' h'' : Heap) tk (p : Addr), (∀ b o, b ≠ I → s.heap.get? b = some o → h'.get? b = some o) → h'' = h'.push { cls := .type "list", data := .seq ((items.toList.drop i).take (items.size - i - aft)).toArray } → p = h'.objs.size →
      Q (items.toList.take i ++ [.ref p] ++ (items.toList.drop i).drop (items.size - i - aft)) { s with heap := h'', toks := tk }) :
    wpAny (model prog w) A (do
      let rest ← holding (items.toList.take i) (collect (.ref I))
      let after := i + 1 + aft - 1 - i
      if rest.length < after then
        rule "unpack.star.too-few"
        raiseError "ValueError" s!"not enough values to unpack (expected at least {i + 1 + aft - 1}, got {i + rest.length})"
      let mid := rest.length - after
      return (items.toList.take i) ++ [← newList (rest.take mid)] ++ rest.drop mid : Sem (List Value)) Q E s := by
  refine wpAny_bind (wpAny_holding (hc fun h' tk hk => ?_))
  have e1 : i + 1 + aft - 1 - i = aft := by omega
  have e2 : (items.toList.drop i).length = items.size - i := by simp
  dsimp only
  rw [e1, e2]
  rw [if_neg (by omega)]
  show wpAny _ _ (newList ((items.toList.drop i).take (items.size - i - aft)) >>= _) _ _ _
  refine wpAny_bind ?_
  unfold newList
  refine wpAny_newObj_type ?_ (by show (((items.toList.drop i).take (items.size - i - aft)).toArray).size ≤ _; simp only [List.size_toArray, List.length_take, List.length_drop, Array.length_toList]; omega)
  exact wpAny_pure (hQ h' _ tk _ hk rfl rfl)

def starQ (s : Shared) (items : Array Value) (i aft : Nat) (Q : List Value → Shared → Prop) : Prop := ∀ (h' h'' : Heap) (tk : Nat) (p : Addr), (∀ b o, s.heap.get? b = some o → h'.get? b = some o) → h'' = h'.push { cls := .type "list", data := .seq ((items.toList.drop i).take (items.size - i - aft)).toArray } → p = h'.objs.size →
      Q (items.toList.take i ++ [.ref p] ++ (items.toList.drop i).drop (items.size - i - aft)) { s with heap := h'', toks := tk }
theorem star_itemsL {l : Addr} {items : Array Value} {i aft : Nat} {Q : List Value → Shared → Prop} (hh : A.handled = none) (hl : s.heap.IsList l items) (hle : i + aft ≤ items.size) (hsz : items.size ≤ sizeLine) (hQ : starQ s items i aft Q) : wpAny (model prog w) A (unpackItems (.ref l) (i + 1 + aft) (some i)) Q E s := by
  have hlt : l ≠ s.heap.objs.size := by obtain ⟨o, ho, _⟩ := hl; exact Nat.ne_of_lt (Heap.lt_size ho)
  have hl2 : l < s.heap.objs.size := by obtain ⟨o, ho, _⟩ := hl; exact Heap.lt_size ho
  unfold unpackItems
  refine wpAny_bind ?_
  unfold notIterableAtAll
  refine wpAny_bind (wpAny_specialOf hl.typeIs slot_list_iter.lookup ?_)
  refine wpAny_pure ?_
  simp only [Bool.false_eq_true, if_false]
  refine wpAny_bind (wpAny_holding (wpAny_pyIter_list hl ?_))
  refine wpAny_bind (wpAny_holding (PySem.W.kun_draw hlt i 0 _ _ ⟨_, Heap.get?_push_size _ rfl, rfl, rfl⟩ (hl.push _) (by omega) fun h₁ hit₁ hs₁ => ?_))
  rw [Nat.zero_add] at hit₁
  rw [List.drop_zero]
  have e0 : (items.toList.take i).length = i := by rw [List.length_take, Array.length_toList]; omega
  rw [e0, if_neg (Nat.lt_irrefl i)]
  have hl₁ : h₁.IsList l items := (hl.push _).extBut hs₁.extBut hlt
  refine star_rest (I := s.heap.objs.size) hle hsz (fun hR => ?_) fun h' h'' tk p hk e1 e2 => hQ h' h'' tk p (fun b o hb => hk b o (Nat.ne_of_lt (Heap.lt_size hb)) (hs₁.extBut b o (Nat.ne_of_lt (Heap.lt_size hb)) (Heap.get?_push_of_some _ hb))) e1 e2
  obtain ⟨oi, hoi, _⟩ := id hit₁
  obtain ⟨ol, hol, _⟩ := id hl₁
  exact collect_off (.inl rfl) (Walks.list (A := A.in1) hh _ l hlt items) (fun j s h => let ⟨o, ho, hc, _⟩ := h.1; ⟨o, ho, hc⟩) i (by omega) ⟨hit₁, hl₁⟩ (Heap.lt_size hoi) (Heap.lt_size hol) hsz hR
theorem star_itemsT {l : Addr} {items : Array Value} {i aft : Nat} {Q : List Value → Shared → Prop} (hh : A.handled = none) (hl : IsTup s.heap l items) (hle : i + aft ≤ items.size) (hsz : items.size ≤ sizeLine) (hQ : starQ s items i aft Q) : wpAny (model prog w) A (unpackItems (.ref l) (i + 1 + aft) (some i)) Q E s := by
  have hlt : l ≠ s.heap.objs.size := by obtain ⟨o, ho, _⟩ := hl; exact Nat.ne_of_lt (Heap.lt_size ho)
  unfold unpackItems
  refine wpAny_bind ?_
  unfold notIterableAtAll
  refine wpAny_bind (wpAny_specialOf hl.typeIs slot_tuple_iter.lookup ?_)
  refine wpAny_pure ?_
  simp only [Bool.false_eq_true, if_false]
  refine wpAny_bind (wpAny_holding (iter_tuple hl ?_))
  refine wpAny_bind (wpAny_holding (draw_tuple hlt i 0 _ _ ⟨_, Heap.get?_push_size _ rfl, rfl, rfl⟩ (hl.push _) (by omega) fun h₁ hit₁ hs₁ => ?_))
  rw [Nat.zero_add] at hit₁
  rw [List.drop_zero]
  have e0 : (items.toList.take i).length = i := by rw [List.length_take, Array.length_toList]; omega
  rw [e0, if_neg (Nat.lt_irrefl i)]
  have hl₁ : IsTup h₁ l items := (hl.push _).extBut hs₁.extBut hlt
  refine star_rest (I := s.heap.objs.size) hle hsz (fun hR => ?_) fun h' h'' tk p hk e1 e2 => hQ h' h'' tk p (fun b o hb => hk b o (Nat.ne_of_lt (Heap.lt_size hb)) (hs₁.extBut b o (Nat.ne_of_lt (Heap.lt_size hb)) (Heap.get?_push_of_some _ hb))) e1 e2
  obtain ⟨oi, hoi, _⟩ := id hit₁
  obtain ⟨ol, hol, _⟩ := id hl₁
  exact collect_off (.inr rfl) (Walks.tuple (A := A.in1) hh _ l hlt items) (fun j s h => let ⟨o, ho, hc, _⟩ := h.1; ⟨o, ho, hc⟩) i (by omega) (show Heap.IsTupleIter h₁ _ l i ∧ Heap.IsTuple h₁ l items from ⟨hit₁, hl₁⟩) (Heap.lt_size hoi) (Heap.lt_size hol) hsz hR
end
/-- the items as they are stored: i ahead, those between as a list, aft behind -/
def starD (i aft : Nat) (ds : List D) : List D := ds.take i ++ [.lst ((ds.drop i).take (ds.length - i - aft))] ++ (ds.drop i).drop (ds.length - i - aft)
def starV (i aft : Nat) (p : Addr) (vs : List V) : List V := vs.take i ++ [.ref p] ++ (vs.drop i).drop (vs.length - i - aft)
def LGstar (K : PySem.W.Frag) (i aft : Nat) (gs : List Tg) : TG := fun v σ H Q => ∃ Z env S d ds env', RE ⟨K, Z⟩ S H env σ ∧ RS ⟨K, Z⟩ S H ∧ Rp ⟨K, Z⟩ S H d v ∧ itemsOf S d = some ds ∧ i + aft ≤ ds.length ∧ asgL S gs (starD i aft ds) env = some env' ∧
  ∀ σ' H', Aft ⟨K, Z⟩ S H S H' → RE ⟨K, Z⟩ S H' env' σ' → Q σ' H'
section
variable {X : Cx} {W : WX}
theorem vals_star {i aft : Nat} {p : Addr} {vs : List V} {its : List Value} (r : Vals vs its) : Vals (starV i aft p vs) (its.take i ++ [.ref p] ++ (its.drop i).drop (its.length - i - aft)) := by
  unfold starV
  rw [r.length]
  exact ((r.take i).append (.cons (show L2.RelV (.ref p) (.ref p) from rfl) .nil)).append ((r.drop i).drop _)
theorem rpl_star {K : Kz} {S : Sto} {H : Hp} {i aft : Nat} {p : Addr} {ds : List D} {vs : List V} (rs : RS K S H) (hp : H p = none) (r : RpL K S H ds vs) : Aft K S H S (upd H p (.lst ((vs.drop i).take (vs.length - i - aft)))) ∧ RpL K S (upd H p (.lst ((vs.drop i).take (vs.length - i - aft)))) (starD i aft ds) (starV i aft p vs) := by
  unfold starD starV
  rw [r.length]
  obtain ⟨a, rn⟩ := Rp.newL rs hp ((r.drop i).take (vs.length - i - aft))
  refine ⟨a, ?_⟩
  have r2 := RpL.step a.st rs _ _ r
  exact ((r2.take i).append (.cons rn .nil)).append ((r2.drop i).drop _)
theorem pg_star {es es' : List Expr} {k i aft : Nat} {gs : List Tg} {pos : Pos} (hc : X.calm = true) (h : JGs X es' gs) (hm : (assignEach es X.env).map (·.2) = (assignEach es' X.env).map (·.2)) (hn : (assignEach es X.env).length = i + 1 + aft) (hst : (assignEach es X.env).findIdx? (·.1) = some i) : PG X (.Tuple es k pos) (LGstar X.K i aft gs) := by
  refine ⟨fun pins s σ H v u Q I r hw => ?_⟩
  obtain ⟨Z, env, S, d, ds, env', re, rs, rp, e1, hle, e2, q⟩ := hw
  rw [PyProof.Rows.assign_Tuple]
  refine wpAny_bind (wpAny_standAt ?_)
  unfold unpack
  rw [hn, hst]
  have fin : ∀ (vs : List V) (its : List Value), vs.length ≤ sizeLine → RpL ⟨X.K, Z⟩ S H ds vs → Vals vs its → starQ s its.toArray i aft fun us s1 => wpAny (model X.prog X.w) X.A (assignInOrder ((assignEach es X.env).map (·.2)) us) (fun _ s' => ∃ σ' H', Inv X pins σ' H' s' ∧ Q σ' H') X.xe s1 := by
    intro vs its hz rl rv h' h'' tk p hk eh ep
    have I1 : Inv X pins σ H { s with heap := h', toks := s.toks } := I.kept hk
    have hp : H p = none := by rw [ep]; exact I1.hok.fresh (Nat.le_refl _)
    obtain ⟨a, r2⟩ := rpl_star (i := i) (aft := aft) rs hp rl
    have I2 : Inv X pins σ (upd H p (.lst ((vs.drop i).take (vs.length - i - aft)))) { s with heap := h'', toks := tk } := by
      rw [eh, ep]
      refine I1.laid (t' := tk) (fun b u e => Heap.get?_push_of_some _ e) (Nat.le_refl _) ⟨?_, (its.drop i).take (its.length - i - aft), 0, ?_, ?_⟩
      · rw [List.length_take, List.length_drop]; omega
      · rw [rv.length]; exact (rv.drop i).take _
      · have := Heap.get?_push_size h' (o := { cls := .type "list", data := .seq ((its.toArray.toList.drop i).take (its.toArray.size - i - aft)).toArray }) rfl
        simpa using this
    rw [hm]
    refine h.pg.run pins _ σ _ (starV i aft p vs) _ Q I2 ?_ ⟨Z, env, S, _, env', re.step a.st rs, a.rs, r2, e2, fun σ' r' _ => q σ' _ a r'⟩
    have := vals_star (i := i) (aft := aft) (p := p) rv
    simpa using this
  have fl : ∀ (a : Addr) (vs : List V), SqL X.K H a vs → RpL ⟨X.K, Z⟩ S H ds vs → wpAny (model X.prog X.w) X.A (do assignInOrder ((assignEach es X.env).map (·.2)) (← holding [.ref a] (unpackItems (.ref a) (i + 1 + aft) (some i)))) (fun _ s' => ∃ σ' H', Inv X pins σ' H' s' ∧ Q σ' H') X.xe s := by
    intro a vs h1 rl
    obtain ⟨its, rv, pl, hz⟩ := I.list h1
    have l1 := rl.length
    have l2 := rv.length
    exact wpAny_bind (wpAny_holding (star_itemsL (I.ok.hd hc) pl.isList (by simp only [List.size_toArray]; omega) (by simp only [List.size_toArray]; omega) (fin vs its hz rl rv)))
  unfold itemsOf at e1
  cases rp with
  | tup h1 rl =>
    cases e1
    cases r
    obtain ⟨its, rv, ht, hz⟩ := I.tuple h1
    have l1 := rl.length
    have l2 := rv.length
    exact wpAny_bind (wpAny_holding (star_itemsT (I.ok.hd hc) ht (by simp only [List.size_toArray]; omega) (by simp only [List.size_toArray]; omega) (fin _ its hz rl rv)))
  | lst h1 _ _ rl =>
    cases e1
    cases r
    exact fl _ _ (.inl h1) rl
  | lstK h1 rl =>
    cases e1
    cases r
    exact fl _ _ (SqL.ofK h1) rl
  | ref a hL =>
    obtain ⟨vs, h1, rl⟩ := rs.atL a ds e1
    cases r
    exact fl _ _ (SqL.of h1) rl
  | _ => cases e1
end
/-- a, *b, c = x -/
def starK (i aft : Nat) (gs : List Tg) (d : D) (env : Ev) (S : Sto) (nx : Ev → Sto → Prop) : Prop := match itemsOf S d with
  | some ds => i + aft ≤ ds.length ∧ match asgL S gs (starD i aft ds) env with
    | some e => nx e S
    | none => False
  | none => False
def sStar (te : TEd) (i aft : Nat) (gs : List Tg) : TSd := fun env S N => te env S (fun d S1 => starK i aft gs d env S1 N.nx) fun x S1 => N.ex x env S1
theorem moStar {te : TEd} {i aft : Nat} {gs : List Tg} (h : MoE te) : MoS (sStar te i aft gs) := fun env S A B l q => h _ _ _ _ _ _ (fun d S1 q1 => by
  unfold starK at q1 ⊢
  split at q1 <;> first | exact q1.elim | skip
  refine ⟨q1.1, ?_⟩
  have q2 := q1.2
  split at q2 <;> first | exact q2.elim | exact l.nx _ _ q2) (fun x S1 q1 => l.ex _ _ _ q1) q
theorem js_star {X : Cx} {W : WX} {e : Expr} {te : TEd} {es es' : List Expr} {k i aft : Nat} {gs : List Tg} {tpos pos : Pos} (hc : X.calm = true) (he : JE X W e te) (h : JGs X es' gs) (hn : (assignEach es X.env).length = i + 1 + aft := by rfl) (hst : (assignEach es X.env).findIdx? (·.1) = some i := by rfl) (hm : (assignEach es X.env).map (·.2) = (assignEach es' X.env).map (·.2) := by rfl)
    (hs : swapsWithSole [.Tuple es k tpos] e pos.line X.env = pure false := by rfl) (hw : swappedStores [.Tuple es k tpos] e X.env = pure none := by rfl) (h1 : (assignEach [.Tuple es k tpos] X.env).map (·.2) = [assign (.Tuple es k tpos) X.env] := by rfl) :
    JS X W (.Assign [.Tuple es k tpos] e pos) (sStar te i aft gs) := by
  refine ⟨PS.imp (ps_asg he.pe (pg_star hc h hm hn hst) hs hw h1) fun N σ H h => ?_, moStar he.mo⟩
  obtain ⟨Z, env, S, re, rs, q⟩ := h
  refine LE.of he.mo re rs q (fun d S1 v H1 q1 a1 r1 => ?_) fun x S1 c dx H1 q1 a1 r1 => exS re rs q1 a1 r1
  unfold starK at q1
  split at q1 <;> first | exact q1.elim | skip
  rename_i ds ed
  obtain ⟨hle, q2⟩ := q1
  split at q2 <;> first | exact q2.elim | skip
  rename_i e1 ee
  exact ⟨Z, env, S1, d, ds, e1, re.step a1.st rs, a1.rs, r1, ed, hle, ee, fun σ' H2 a2 r' => q2 σ' H2 (a1.trans a2) r'⟩
end Bl

/-! enumerate, zip, reversed over lists and tuples -/
namespace Bl
open PySem PySem.Spec PyProof.Rows L2
theorem meets_enum1 {v : Value} {o : Obj} {H : Heap → Prop} (B : Begins v o H) :
    Meets (Builtin.«enumerate.__new__» ⟨[.type "enumerate", v], []⟩) (fun _ R s => H s.heap ∧
      R (.ok (.ret (.ref (s.heap.push o).objs.size))) { s with heap := (s.heap.push o).push { cls := .type "enumerate", data := .fields #[.none, .bool false, .ref s.heap.objs.size, rawInt 0, .none, .none] } }) :=
  .of_wp fun prog w A R s h => by
    obtain ⟨hp, g, d, tk, os⟩ := s; obtain ⟨h1, h⟩ := h
    have hsub := sub_enumerate
    have q1 : ∀ {A' : Around} {E : Value → Shared → Prop} {Q : Value → Shared → Prop}, Q (.ref hp.objs.size) ⟨hp.push o, g, d, tk, os⟩ → wpAny (model prog w) A' (pyIter v) Q E ⟨hp, g, d, tk, os⟩ :=
      fun q => B.iter prog w _ _ ⟨hp, g, d, tk, os⟩ _ h1 q
    wp_walk using q1
    refine wpAny_stack_any fun st => wpAny_pure ?_
    split
    · rename_i c _ _ _ _ _
      cases (c == Value.type "enumerate")
      · wp_walk using q1
        exact ⟨_, rfl, h⟩
      · wp_walk using q1
        exact ⟨_, rfl, h⟩
    · wp_walk using q1
      exact ⟨_, rfl, h⟩
section
variable {prog : Program} {w : World} {A : Around} {E : Value → Shared → Prop} {s : Shared}
theorem enum_begins1 {v : Value} {o : Obj} {H : Heap → Prop} {Q : Value → Shared → Prop} (B : Begins v o H) (h1 : H s.heap)
    (h : ∀ h', IsEnum h' (s.heap.objs.size + 1) s.heap.objs.size 0 .none → h'.get? s.heap.objs.size = some o → h'.objs.size = s.heap.objs.size + 2 →
      (∀ b o, s.heap.get? b = some o → h'.get? b = some o) → Q (.ref (s.heap.objs.size + 1)) { s with heap := h' }) :
    wpAny (model prog w) A (call (.type "enumerate") [v]) Q E s := by
  refine callType_new F.called_enumerate (by decide) (F.typeCall_enumerate_1 _) (F.newCall_enumerate_1 _) (fun obj => F.args_object_init_2 obj _) F.entry_enumerate_new
    (meets_enum1 B) ⟨h1, ?_⟩
  have hz : (s.heap.push o).objs.size = s.heap.objs.size + 1 := Heap.size_push ..
  show _ ∧ _
  rw [hz]
  have he : IsEnum ((s.heap.push o).push { cls := .type "enumerate", data := .fields #[.none, .bool false, .ref s.heap.objs.size, rawInt 0, .none, .none] }) (s.heap.objs.size + 1) s.heap.objs.size 0 .none := by
    have := Heap.get?_push_size (s.heap.push o) (o := { cls := .type "enumerate", data := .fields #[.none, .bool false, .ref s.heap.objs.size, rawInt 0, .none, .none] }) rfl
    rw [hz] at this; exact this
  refine ⟨⟨_, he, rfl⟩, h _ he (Heap.get?_push_of_some _ (Heap.get?_push_size _ B.free)) (by rw [Heap.size_push, hz]) fun b o x => Heap.get?_push_of_some _ (Heap.get?_push_of_some _ x)⟩
end
/-- the tuple at a, each item in a new pair -/
def IteT (K : PySem.W.Frag) (a : Addr) : It :=
  ⟨fun i H => ∃ (xs : List V) (x : V), SqT K H a xs ∧ xs[i]? = some x, fun i H v H' => ∃ T x, v = .ref T ∧ H T = none ∧ H' = upd H T (.tup [.int (i : Nat), x]) ∧ ∀ xs, SqT K H a xs → xs[i]? = some x, fun i H => ∃ xs : List V, SqT K H a xs ∧ xs.length = i⟩
theorem turn_enumT {P : Program} {w : World} {K : PySem.W.Frag} {elts : List Expr} {kk : Nat} {tpos : Pos} (a e it : Addr) (hai : a ≠ it) (hea : e ≠ a) :
    Turn P w K (.Tuple elts kk tpos) (IteT K a) [e, it] e (fun i h => (∃ old, IsEnum h e it ((i : Nat) : Int) old) ∧ h.IsTupleIter it a i ∧ e ≠ it) where
  mem := by simp
  obj := fun i h st b hb => by
    obtain ⟨⟨old, he⟩, ⟨o, ho, hc, hd⟩, _⟩ := st
    have e' : b = e ∨ b = it := by simpa using hb
    rcases e' with z | z
    · rw [z]; exact ⟨_, he, fun v q => nomatch q⟩
    · rw [z]; exact ⟨o, ho, fun v q => by rw [hd] at q; cases q⟩
  keep := fun i h h' st k => let ⟨⟨old, he⟩, hi, hne⟩ := st; ⟨⟨old, k e (by simp) _ he⟩, hi.at fun o q => k it (by simp) o q, hne⟩
  item := by
    intro X hP hw hK hc i pins s σ H E I hf st hg
    subst hP hw hK
    obtain ⟨⟨old, he⟩, hit, hne⟩ := st
    obtain ⟨xs, x, hq, hx⟩ := hg
    obtain ⟨its, rv, p, hz⟩ := I.tuple hq
    obtain ⟨u, hu, ru⟩ := rv.get hx
    have hel : e < s.heap.objs.size := Heap.lt_size he
    have hil : it < s.heap.objs.size := by obtain ⟨_, q, _⟩ := hit; exact Heap.lt_size q
    have hef : e ∉ [it, a] := fun hm => by
      rcases List.mem_cons.mp hm with z | z
      · exact hne z
      · exact hea (List.mem_singleton.mp z)
    have hui : its.toArray[i]? = some u := by simpa using hu
    have hin : i < its.toArray.size := (Array.getElem?_eq_some_iff.mp hui).1
    refine wpAny_pyNext_enum_itemD (Draws.tuple (A := X.A.in1) (I.ok.hd hc) it a hai its.toArray) he ⟨hit, p⟩ hin hne hef fun x' h' tk hp ho hit' hT hsz hk => ?_
    have ex : x' = u := by
      have z : its.toArray[i]? = some x' := hp
      rw [hui] at z
      exact (Option.some.inj z).symm
    subst ex
    refine ⟨_, rfl, wpAny_letOwnedTupleGo_enum (s := { s with heap := h', toks := tk + 1 }) ho fun h'' he' sb => ?_⟩
    have hT2 : h''.get? s.heap.objs.size = some { cls := .type "tuple", data := .seq #[.int i tk, x'] } := (sb.2 _ (Nat.ne_of_gt hel)).trans hT
    have new : ObjOk X.prog X.w (upd H s.heap.objs.size (.tup [.int (i : Nat), x])) h'' s.heap.objs.size (.tup [.int (i : Nat), x]) :=
      ⟨by show 2 ≤ sizeLine; decide, [.int i tk, x'], .cons ⟨_, rfl⟩ (.cons ru .nil), ⟨_, hT2, rfl, _, rfl⟩⟩
    have I1 : Inv X pins σ (upd H s.heap.objs.size (.tup [.int (i : Nat), x])) { s with heap := h'', toks := tk + 1 } :=
      I.turnedNew (ch := [e, it]) (fun b ob hb q => (sb.2 b (fun z => hb (by simp [z]))).trans (hk b ob (fun z => hb (by simp [z])) (fun z => hb (by simp [z])) q)) hf (Nat.le_refl _) new
    refine ⟨.ref s.heap.objs.size, _, I1, rfl, ⟨_, x, rfl, I.hok.fresh (Nat.le_refl _), rfl, fun ys hy => by rw [I.tuple_inj hy hq]; exact hx⟩, ⟨⟨x', ?_⟩, hit'.1.at fun o q => (sb.2 it (Ne.symm hne)).trans q, hne⟩, fun b hb => ?_⟩
    · have e1 : ((i + 1 : Nat) : Int) = (i : Int) + 1 := by omega
      rw [e1]; exact he'
    · have hb' : b < s.heap.objs.size := by
        have e' : b = e ∨ b = it := by simpa using hb
        rcases e' with z | z
        · rw [z]; exact hel
        · rw [z]; exact hil
      rw [upd_ne (Nat.ne_of_lt hb')]
      exact (hf b hb).1
  done := by
    intro X hP hw hK hc i pins s σ H E I hf st hg
    subst hP hw hK
    obtain ⟨⟨old, he⟩, hit, hne⟩ := st
    obtain ⟨xs, hq, hx⟩ := hg
    obtain ⟨its, rv, p, hz⟩ := I.tuple hq
    obtain ⟨f0, f1, f2, f3, f4, f5⟩ := hf it (by simp)
    have hl := rv.length
    have ei : i = its.toArray.size := by rw [List.size_toArray]; omega
    rw [ei] at hit
    exact wpAny_pyNext_enum_endD (Draws.tuple (A := X.A.in1) (I.ok.hd hc) it a hai its.toArray) he ⟨hit, p⟩ fun h' eb => ⟨rfl, I.turned (t' := s.toks) (fun b o hb q => eb b o hb q) f0 f1 f3 f4 f5⟩
  self := fun A i s Q E st h => let ⟨⟨_, he⟩, _⟩ := st; wpAny_pyIter_enum he h
theorem walk_enumT {K : PySem.W.Frag} {a : Addr} {xs : List V} : Walk (IteT K a) xs.length (fun H => SqT K H a xs) (YPair (fun i => some (.int (i : Nat))) (fun i => xs[i]?)) := by
  refine ⟨fun i _ hi q => ⟨xs, xs[i], q, by simp [hi]⟩, fun _ q => ⟨xs, q, rfl⟩, fun i H v H' _ q y => ?_⟩
  obtain ⟨T, x, h1, h2, h3, h4⟩ := y
  exact ⟨T, .int (i : Nat), x, h1, h2, h3, rfl, h4 xs q⟩
theorem walk_zipT {K : PySem.W.Frag} {a b : Addr} {xs ys : List V} {n : Nat} (hn : n = min xs.length ys.length) : Walk (RZ.ItzT K a b) n (fun H => SqT K H a xs ∧ SqT K H b ys) (YPair (fun i => xs[i]?) (fun i => ys[i]?)) := by
  subst hn
  refine ⟨fun i _ hi q => ?_, fun _ q => ⟨xs, ys, q.1, q.2, by omega⟩, fun i H v H' _ q y => ?_⟩
  · have h1 : i < xs.length := by omega
    have h2 : i < ys.length := by omega
    exact ⟨xs, ys, xs[i], ys[i], q.1, q.2, by simp [h1], by simp [h2]⟩
  · obtain ⟨T, x, z, h1, h2, h3, h4, h5⟩ := y
    exact ⟨T, x, z, h1, h2, h3, h4 xs q.1, h5 ys q.2⟩
def iEnumA (K : PySem.W.Frag) (ta : TA) : TI := fun σ H R => ta σ H fun vs H1 => ∃ a xs, vs = [.ref a] ∧ ((SqL K H1 a xs ∧ R (Ite K a) H1) ∨ (SqT K H1 a xs ∧ R (IteT K a) H1))
theorem pi_enumA {X : Cx} {e : Expr} {ta : TA} {p pos tpos : Pos} {elts : List Expr} {kk : Nat} (hg : Gl X "enumerate") (hm : X.mg "enumerate" = none) (ha : PA X [e] ta) (hs : starEach [e] X.env = [(false, eval e X.env)] := by rfl) :
    PI X (.Tuple elts kk tpos) (.Call (.Name "enumerate" p) [e] [] pos) (iEnumA X.K ta) := by
  refine ⟨fun pins s σ H R I h => ?_⟩
  refine Call_ (ld_blt I hg hm boot_enumerate (PyProof.Rows.callWith_type1 (thn (ha.run pos pins s σ H _ I h) fun us s1 ⟨vs, H1, I1, r1, q1⟩ => ?_) hs rfl))
  obtain ⟨a, xs, ex, q⟩ := q1
  subst ex
  cases r1 with
  | cons r rr =>
    cases rr
    cases r
    have fr : ∀ b ∈ [s1.heap.objs.size + 1, s1.heap.objs.size], FpOk X pins H1 b := fun b hb => by
      have e' : b = s1.heap.objs.size + 1 ∨ b = s1.heap.objs.size := by simpa using hb
      have hle : s1.heap.objs.size ≤ b := by
        rcases e' with z | z
        · rw [z]; exact Nat.le_add_right _ _
        · rw [z]; exact Nat.le_refl _
      exact I1.fpOk hle (I1.hok.fresh hle)
    rcases q with ⟨hq, q⟩ | ⟨hq, q⟩
    · obtain ⟨its, rv, p', hz⟩ := I1.list hq
      refine call_enumerate_list p'.isList fun h' he hit hsz hk => wpAny_pyIter_enum he ?_
      have I2 : Inv X pins σ H1 { s1 with heap := h' } := I1.kept (t' := s1.toks) hk
      exact ⟨s1.heap.objs.size + 1, [s1.heap.objs.size + 1, s1.heap.objs.size], _, _, H1, rfl, I2, turn_enum a (s1.heap.objs.size + 1) s1.heap.objs.size, ⟨⟨.none, he⟩, hit, Nat.succ_ne_self _⟩, fr, q⟩
    · obtain ⟨its, rv, p', hz⟩ := I1.tuple hq
      obtain ⟨o1, ho1, _⟩ := id p'
      have hlt := Heap.lt_size ho1
      refine enum_begins1 (begins_tuple a its.toArray) p' fun h' he hit hsz hk => wpAny_pyIter_enum he ?_
      have I2 : Inv X pins σ H1 { s1 with heap := h' } := I1.kept (t' := s1.toks) hk
      exact ⟨s1.heap.objs.size + 1, [s1.heap.objs.size + 1, s1.heap.objs.size], _, _, H1, rfl, I2, turn_enumT a (s1.heap.objs.size + 1) s1.heap.objs.size (Nat.ne_of_lt hlt) (Nat.ne_of_gt (Nat.lt_succ_of_lt hlt)), ⟨⟨.none, he⟩, ⟨_, hit, rfl, rfl⟩, Nat.succ_ne_self _⟩, fr, q⟩
/-! ### the same over data -/
def enumD (ds : List D) : List D := (List.range ds.length).zipWith (fun (i : Nat) d => D.tup [.int i, d]) ds
def zipD (xs ys : List D) : List D := xs.zipWith (fun x y => D.tup [x, y]) ys
def seqD : D → Option (List D)
  | .tup ds => some ds
  | .lst ds => some ds
  | _ => none
def iEnumD (t : TEd) : TAd := fun env S Q E => t env S (fun d S1 => match seqD d with | some ds => Q (enumD ds) S1 | none => False) E
def iRevD (t : TEd) : TAd := fun env S Q E => t env S (fun d S1 => match seqD d with | some ds => Q ds.reverse S1 | none => False) E
def zipK (x y : D) (S : Sto) (Q : List D → Sto → Prop) : Prop := match x, y with
  | .tup xs, .tup ys => Q (zipD xs ys) S
  | .lst xs, .lst ys => Q (zipD xs ys) S
  | _, _ => False
def iZipD (t u : TEd) : TAd := fun env S Q E => t env S (fun x S1 => u env S1 (fun y S2 => zipK x y S2 Q) E) E
theorem moEnumD {t : TEd} (ht : MoE t) : MoE (iEnumD t) := fun env S Q Q' E E' h he q => ht _ _ _ _ _ _ (fun d S1 q1 => by
  split at q1 <;> first | exact h _ _ q1 | exact q1.elim) he q
theorem moRevD {t : TEd} (ht : MoE t) : MoE (iRevD t) := fun env S Q Q' E E' h he q => ht _ _ _ _ _ _ (fun d S1 q1 => by
  split at q1 <;> first | exact h _ _ q1 | exact q1.elim) he q
theorem moZipD {t u : TEd} (ht : MoE t) (hu : MoE u) : MoE (iZipD t u) := fun env S Q Q' E E' h he q => ht _ _ _ _ _ _ (fun x S1 q1 => hu _ _ _ _ _ _ (fun y S2 q2 => by
  unfold zipK at q2 ⊢
  split at q2 <;> first | exact h _ _ q2 | exact q2.elim) he q1) he q
theorem enumD_get {ds : List D} {i : Nat} {d : D} (e : ds[i]? = some d) : (enumD ds)[i]? = some (.tup [.int i, d]) := by
  have hi : i < ds.length := (List.getElem?_eq_some_iff.mp e).1
  unfold enumD
  rw [List.getElem?_zipWith, List.getElem?_range hi, e]
theorem enumD_len (ds : List D) : (enumD ds).length = ds.length := by unfold enumD; simp
theorem zipD_get {xs ys : List D} {i : Nat} {x y : D} (e : xs[i]? = some x) (e2 : ys[i]? = some y) : (zipD xs ys)[i]? = some (.tup [x, y]) := by
  unfold zipD
  rw [List.getElem?_zipWith, e, e2]
theorem zipD_len (xs ys : List D) : (zipD xs ys).length = min xs.length ys.length := by unfold zipD; simp
theorem Rp.pair {K : Kz} {S : Sto} {H : Hp} {T : Addr} {x y : V} {dx dy : D} (rs : RS K S H) (hT : H T = none) (r1 : Rp K S H dx x) (r2 : Rp K S H dy y) : Aft K S H S (upd H T (.tup [x, y])) ∧ Rp K S (upd H T (.tup [x, y])) (.tup [dx, dy]) (.ref T) :=
  Rp.newT rs hT (.cons r1 (.cons r2 .nil))
theorem wk_enum_of {K : Kz} {S : Sto} {H : Hp} {J : It} {G : Hp → Prop} {ds : List D} {vs : List V} (rl : RpL K S H ds vs) (wk : Walk J vs.length G (YPair (fun i => some (.int (i : Nat))) (fun i => vs[i]?))) (hG : ∀ S' H', Step S H S' H' → G H') : WkD K S H J (enumD ds) := by
  refine ⟨G, YPair (fun i => some (.int (i : Nat))) (fun i => vs[i]?), by rw [enumD_len, rl.length]; exact wk, hG, fun K' i S' H' x H'' _ _ rs' tr hi y => ?_⟩
  obtain ⟨T, x', y', rfl, hT, rfl, e1, e2⟩ := y
  cases e1
  obtain ⟨d, e3, r3⟩ := rl.get' e2
  obtain ⟨a, r⟩ := Rp.pair rs' hT (.int (i : Nat)) (tr d y' r3)
  exact ⟨a, _, enumD_get e3, r⟩
theorem wk_zip_of {K : Kz} {S : Sto} {H : Hp} {J : It} {G : Hp → Prop} {ds es : List D} {vs ws : List V} (rl : RpL K S H ds vs) (rl2 : RpL K S H es ws) (wk : Walk J (min vs.length ws.length) G (YPair (fun i => vs[i]?) (fun i => ws[i]?))) (hG : ∀ S' H', Step S H S' H' → G H') : WkD K S H J (zipD ds es) := by
  refine ⟨G, YPair (fun i => vs[i]?) (fun i => ws[i]?), by rw [zipD_len, rl.length, rl2.length]; exact wk, hG, fun K' i S' H' x H'' _ _ rs' tr hi y => ?_⟩
  obtain ⟨T, x', y', rfl, hT, rfl, e1, e2⟩ := y
  obtain ⟨d, e3, r3⟩ := rl.get' e1
  obtain ⟨d2, e4, r4⟩ := rl2.get' e2
  obtain ⟨a, r⟩ := Rp.pair rs' hT (tr d x' r3) (tr d2 y' r4)
  exact ⟨a, _, zipD_get e3 e4, r⟩
section
variable {P : Program} {w : World} {K : PySem.W.Frag} {mg : Str → Option Value} {base : Heap} {N : List Str} {sc : Scope} {vw : Vw} {k : Nat} {X : Cx} {W : WX}
/-- one argument of a call -/
theorem la_one {te : TEd} (mo : MoE te) {σ : L2.St} {H : Hp} {Q : List V → Hp → Prop} (h : LE X.K W te σ H fun v H1 => Q [v] H1) : LA X.K W (aCons te aNil) σ H Q := by
  obtain ⟨Z, env, S, re, rs, q⟩ := h
  refine ⟨Z, env, S, re, rs, mo _ _ _ _ _ _ (fun d S1 q1 vs H1 a r => ?_) (fun x S1 q1 c dx H1 a r => q1 c dx H1 a r) q⟩
  obtain ⟨v, rfl, r1⟩ := r.one
  exact q1 v H1 a r1
theorem ji_enum {e : Expr} {te : TEd} {p pos tpos : Pos} {elts : List Expr} {kk : Nat} (c : JC P w K mg base N sc vw k X W) (hx : ("enumerate" : Str) ∈ vw.gs) (hm : mg "enumerate" = none) (he : JE X W e te) (hs : starEach [e] X.env = (false, eval e X.env) :: starEach [] X.env := by rfl) : JI X W (.Tuple elts kk tpos) (.Call (.Name "enumerate" p) [e] [] pos) (iEnumD te) := by
  have ja := ja_cons he (ja_nil (X := X) (W := W)) hs
  refine ⟨⟨fun pins s σ H R I h => (pi_enumA (c.gl hx) (by rw [c.gg]; exact hm) ja.pa hs).run pins s σ H R I (la_one he.mo ?_)⟩, moEnumD he.mo⟩
  obtain ⟨Z, env, S, re, rs, q⟩ := h
  refine LE.of he.mo re rs q (fun d S1 v H1 q1 a1 r1 => ?_) fun x S1 c dx H1 q1 a1 r1 => q1 c dx H1 a1 r1
  cases d <;> first | exact q1.elim | skip
  · obtain ⟨a, vs, rfl, hq, rl⟩ := r1.sqT
    exact ⟨a, vs, rfl, .inr ⟨hq, q1 _ H1 a1 (wk_enum_of rl walk_enumT fun S' H' st => st.sqT a1.rs hq)⟩⟩
  · cases r1 with
    | lst h1 h2 _ h4 => exact ⟨_, _, rfl, .inl ⟨.inl h1, q1 _ H1 a1 (wk_enum_of h4 walk_enum fun S' H' st => .inl (st.rdL h1 h2).1)⟩⟩
    | lstK h1 h4 => exact ⟨_, _, rfl, .inl ⟨SqL.ofK h1, q1 _ H1 a1 (wk_enum_of h4 walk_enum fun S' H' st => SqL.ofK h1)⟩⟩
theorem ji_zip {e f : Expr} {te tf : TEd} {p pos tpos : Pos} {elts : List Expr} {kk : Nat} (c : JC P w K mg base N sc vw k X W) (hx : ("zip" : Str) ∈ vw.gs) (hm : mg "zip" = none) (he : JE X W e te) (hf : JE X W f tf) (hs : starEach [e, f] X.env = (false, eval e X.env) :: starEach [f] X.env := by rfl) (hs2 : starEach [f] X.env = (false, eval f X.env) :: starEach [] X.env := by rfl) (hpl : (backTo pos (starEach [f] X.env)).any (·.1) = false := by rfl) : JI X W (.Tuple elts kk tpos) (.Call (.Name "zip" p) [e, f] [] pos) (iZipD te tf) := by
  have ja := ja_cons he (ja_cons hf (ja_nil (X := X) (W := W)) hs2) hs
  refine ⟨⟨fun pins s σ H R I h => (RZ.pi_zipA (c.gl hx) (by rw [c.gg]; exact hm) ja.pa hs hpl).run pins s σ H R I ?_⟩, moZipD he.mo hf.mo⟩
  obtain ⟨Z, env, S, re, rs, q⟩ := h
  refine ⟨Z, env, S, re, rs, he.mo _ _ _ _ _ _ (fun x S1 q1 => hf.mo _ _ _ _ _ _ (fun y S2 q2 vs H2 a r => ?_) (fun _ _ z => z) q1) (fun _ _ z => z) q⟩
  obtain ⟨v, u, rfl, r1, r2⟩ := r.two
  unfold zipK at q2
  split at q2 <;> first | exact q2.elim | skip
  · obtain ⟨l, vs, rfl, hq, rl⟩ := r1.sqT
    obtain ⟨m, us, rfl, hq2, rl2⟩ := r2.sqT
    exact ⟨l, m, vs, us, rfl, .inr ⟨hq, hq2, q2 _ H2 a (wk_zip_of rl rl2 (walk_zipT rfl) fun S' H' st => ⟨st.sqT a.rs hq, st.sqT a.rs hq2⟩)⟩⟩
  · have G : ∀ {d : List D} {v : V}, Rp ⟨X.K, Z⟩ S2 H2 (.lst d) v → ∃ l vs, v = .ref l ∧ RpL ⟨X.K, Z⟩ S2 H2 d vs ∧ SqL X.K H2 l vs ∧ ∀ S' H', Step S2 H2 S' H' → SqL X.K H' l vs := fun r => by
      cases r with
      | lst h1 h2 _ h4 => exact ⟨_, _, rfl, h4, .inl h1, fun S' H' st => .inl (st.rdL h1 h2).1⟩
      | lstK h1 h4 => exact ⟨_, _, rfl, h4, SqL.ofK h1, fun S' H' st => SqL.ofK h1⟩
    obtain ⟨l, vs, rfl, rl, hq, g1⟩ := G r1
    obtain ⟨m, us, rfl, rl2, hq2, g2⟩ := G r2
    exact ⟨l, m, vs, us, rfl, .inl ⟨hq, hq2, q2 _ H2 a (wk_zip_of rl rl2 (walk_zip rfl) fun S' H' st => ⟨g1 S' H' st, g2 S' H' st⟩)⟩⟩
end
end Bl

/-! {"..": x, ..}.get(k, y) -/
namespace Bl
open PySem PySem.Spec PyProof.Rows L2
section
variable {K : Kz} {S : Sto} {H : Hp} {p : Addr} {ks ls : List (Key × V)}
mutual
theorem Rp.dk (hp : H p = some (.dK ks)) : ∀ (d : D) (v : V), Rp K S H d v → Rp K S (upd H p (.dK ls)) d v
  | .non, _, h => by cases h; exact .non
  | .bl b, _, h => by cases h; exact .bl b
  | .int i, _, h => by cases h; exact .int i
  | .str x, _, h => by cases h; exact .str x
  | .tup ds, _, h => by
    cases h with
    | tup hs ha =>
      refine .tup ?_ (RpL.dk hp ds _ ha)
      rcases hs with (h | ⟨o, h⟩) | h
      · exact .inl (.inl (by rw [upd_ne (ne_of h hp (by intro z; cases z))]; exact h))
      · exact .inl (.inr ⟨o, by rw [upd_ne (ne_of h hp (by intro z; cases z))]; exact h⟩)
      · exact .inr h
  | .lst ds, _, h => by
    cases h with
    | lst hs hn hz ha =>
      refine .lst ?_ hn hz (RpL.dk hp ds _ ha)
      rcases hs with h | ⟨o, h⟩
      · exact .inl (by rw [upd_ne (ne_of h hp (by intro z; cases z))]; exact h)
      · exact .inr ⟨o, by rw [upd_ne (ne_of h hp (by intro z; cases z))]; exact h⟩
    | lstK hs ha => exact .lstK hs (RpL.dk hp ds _ ha)
  | .ref a, _, h => by cases h with | ref _ l => exact .ref a ((Kept.upd fun o' e => by rw [hp] at e; cases e; rfl).isL l)
  | .obj a, _, h => by cases h; exact .obj a
  | .own a, _, h => by cases h with | own _ l => exact .own a ((Kept.upd fun o' e => by rw [hp] at e; cases e; rfl).isO l)
  | .ins C ns ds, _, h => by
    cases h with
    | ins h1 h2 h3 h4 => exact .ins (by rw [upd_ne (ne_of h1 hp (by intro z; cases z))]; exact h1) h2 h3 (RpL.dk hp ds _ h4)
theorem RpL.dk (hp : H p = some (.dK ks)) : ∀ (ds : List D) (vs : List V), RpL K S H ds vs → RpL K S (upd H p (.dK ls)) ds vs
  | [], _, h => by cases h; exact .nil
  | d :: ds, _, h => by
    cases h with
    | cons h1 h2 => exact .cons (Rp.dk hp d _ h1) (RpL.dk hp ds _ h2)
end
theorem RS.dk (hp : H p = some (.dK ks)) (sp : S p = none) (rs : RS K S H) : RS K S (upd H p (.dK ls)) := by
  refine ⟨fun a ds e => ?_, fun b hb => ?_⟩
  · obtain ⟨vs, q, r⟩ := rs.at_ a ds e
    exact ⟨vs, by rw [upd_ne fun z => by rw [z, sp] at e; cases e]; exact q, r.map fun _ _ => RpL.dk hp _ _⟩
  · obtain ⟨n, vs, q⟩ := rs.hid b hb
    exact ⟨n, vs, by rw [upd_ne (ne_of q hp (by intro z; cases z))]; exact q⟩
end
/-- a display with texts as keys: the values -/
def lookD : List Str → List D → Str → Option D
  | k :: ks, d :: ds, x => if x = k then some d else lookD ks ds x
  | _, _, _ => none
def dGetL (ks : List Str) (ta : TAd) (ty tx : TEd) : TEd := fun env S Q E => ta env S (fun ds S1 => ds.length = ks.length ∧ ty env S1 (fun y S2 => tx env S2 (fun z S3 => match y with
  | .str x => Q ((lookD ks ds x).getD z) S3
  | _ => False) E) E) E
theorem moGetL {ks : List Str} {ta : TAd} {ty tx : TEd} (h1 : MoE ta) (h2 : MoE ty) (h3 : MoE tx) : MoE (dGetL ks ta ty tx) := fun env S Q Q' E E' h he q => h1 _ _ _ _ _ _ (fun ds S1 q1 => ⟨q1.1, h2 _ _ _ _ _ _ (fun y S2 q2 => h3 _ _ _ _ _ _ (fun z S3 q3 => by
  cases y <;> first | exact h _ _ q3 | exact q3) he q2) he q1.2⟩) he q
/-- the pairs of a display: constant keys, values -/
structure PDs (X : Cx) (W : WX) (pos : Pos) (keys : List (Option Expr)) (values : List Expr) (ks : List Str) (ta : TAd) : Prop where
  pp : ∃ trs, PPs X pos keys values trs ∧ ∀ Z env S σ H (Q : List (V × V) → Hp → Prop), RE ⟨X.K, Z⟩ S H env σ → RS ⟨X.K, Z⟩ S H → ta env S (fun ds S' => ∀ vs H', Aft ⟨X.K, Z⟩ S H S' H' → RpL ⟨X.K, Z⟩ S' H' ds vs → vs.length = ks.length ∧ Q ((ks.zip vs).map fun q => (V.str q.1, q.2)) H') (PX ⟨X.K, Z⟩ S H σ W) → tPairs trs σ H Q
  mo : MoE ta
end Bl

/-! min(xs), max(xs) of a list of whole numbers -/
namespace Bl
open PySem PySem.Spec PyProof.Rows L2
section
variable {X : Cx}
end
end Bl

/-! tables of the module with words as keys; min, max of a tuple; defs that call themselves -/
namespace Bl
open PySem PySem.Spec PyProof.Rows L2
section
variable {P : Program} {w : World} {K : PySem.W.Frag} {mg : Str → Option Value} {base : Heap} {N : List Str} {sc : Scope} {vw : Vw} {k : Nat} {X : Cx} {W : WX} {a : Expr} {ta : TEd}
end
/-! ### the head's reading, with tables -/
structure TpW (fa : List He.Fa) (fn : List He.DefD) (bx : PySem.W.Frag → Bool) (ts : List He.Tab) (w : World) (K : PySem.W.Frag) (mg : Str → Option Value) : Prop extends Tp fa fn bx K mg where
  tab : ∀ (i : Nat) (t : He.Tab), ts[i]? = some t → ∃ es n, KDict K w (t.1 K) es n
  it : ∀ (x : Str) (i : Int), (He.Fa.int x i).ok K = true → ∃ t, mg x = some (.int i t)
theorem TpW.int {fa : List He.Fa} {fn : List He.DefD} {bx : PySem.W.Frag → Bool} {ts : List He.Tab} {w : World} {K : PySem.W.Frag} {mg : Str → Option Value} (T : TpW fa fn bx ts w K mg) (i : Nat) {x : Str} {v : Int} (h : fa[i]? = some (.int x v) := by rfl) : ∃ t, mg x = some (.int v t) := T.it x v (T.sy.fact i h)
theorem TpW.mk' {fa : List He.Fa} {fn : List He.DefD} {bx : PySem.W.Frag → Bool} {ts : List He.Tab} {w : World} {K : PySem.W.Frag} {mg : Str → Option Value} {h : Heap} (X : K.In h) (G : h.Ns mainGlobals mg) (c : He.SaysT fa fn ts w K ∧ bx K = true) : TpW fa fn bx ts w K mg :=
  ⟨Tp.mk' X G ⟨c.1.d, c.2⟩, fun i _ e => c.1.tab i e, fun _ _ q => He.int_ok X G q⟩
end Bl

/-! instances: fields read and written, made, methods -/
namespace Bl
open PySem PySem.Spec PyProof.Rows L2
/-- where the module's classes stand -/
class GaA where
  ga : Str → Addr
/-! ### the store and instances -/
section
variable {K : Kz} {S : Sto} {H : Hp} {p : Addr}
/-- a new one -/
theorem RS.newO {o : HO} {ds : List D} (rs : RS K S H) (hp : H p = none) (r : RpO K S H ds o) : Aft K S H (sup S p ds) (upd H p o) := by
  have st : Step S H (sup S p ds) (upd H p o) := ⟨fun b u hb n => ⟨by rw [sup_ne (ne_of_none hb hp)]; exact n, by rw [upd_ne (ne_of_none hb hp)]; exact hb⟩, Kept.new hp⟩
  refine ⟨st, fun a es' ea => ?_, fun b hb => ?_⟩
  · by_cases ha : a = p
    · subst ha
      rw [sup_same] at ea
      cases ea
      exact ⟨o, upd_same, r.map fun _ _ => RpL.step st rs _ _⟩
    · rw [sup_ne ha] at ea
      obtain ⟨ws, q, r⟩ := rs.at_ a es' ea
      exact ⟨ws, by rw [upd_ne ha]; exact q, r.map fun _ _ => RpL.step st rs _ _⟩
  · have ne : b ≠ p := fun z => rs.nz hp (z ▸ hb)
    obtain ⟨n, ws, q⟩ := rs.hid b hb
    exact ⟨by rw [sup_ne ne]; exact n, ws, by rw [upd_ne ne]; exact q⟩
/-- an instance in the store -/
theorem RS.atI {C : Addr} {nd vs : List D} (rs : RS K S H) (e : S p = some (.obj C :: .tup nd :: vs)) (ho : IsO H p) : ∃ dx fs, H p = some (.ins C dx fs) ∧ nd = (fs.map (·.1)).map D.str ∧ RpL K S H vs (fs.map (·.2)) := by
  obtain ⟨o, q, r⟩ := rs.at_ p _ e
  obtain ⟨o2, q2, k⟩ := ho
  rw [q] at q2
  cases q2
  cases o <;> first | exact r.elim | skip
  · rcases k with k | k <;> cases k
  · obtain ⟨ks, ws, e1, _⟩ := r
    cases e1
  · obtain ⟨ws, e1, r⟩ := r
    cases e1
    exact ⟨_, _, q, rfl, r⟩
  · obtain ⟨ws, e1, _⟩ := r
    exact absurd (List.cons.inj e1).1 fun z => by unfold xTag at z; cases z
end
/-! ### fields -/
section
variable [GaA]
end
end Bl

/-! own exceptions over any built-in base whose __init__ keeps its one value in a field: made, raised -/
namespace Bl
open PySem PySem.Spec PyProof.Rows L2
section
open Builtin Builtin.ObjectAttr
variable {prog : Program} {w : World} {A : Around} {R : Result → Shared → Prop} {hp : Heap} {g : Array GenState} {d : Drawn} {t : Nat} {os : OsState}
/-- the first field: osa_openX, instanceDict_exc and store_in_new, one behind the other -/
theorem first_field {K : PySem.W.Frag} {B : String} {bmB : List Value} {f : Str} {tk : Tok} {v : Value} {e C t1 : Addr} (SF : StoreFacts B bmB "object.__setattr__" "object") (kin : K.In hp) (he : hp.get? e = some (PySem.W.excObj C t1 none .none))
    (over : PySem.W.excOver K C bmB = true) (dct : PySem.W.hasDictIn K C = true) (no : PySem.W.findIn K (.ref C) f = some none)
    (done : ∀ G tk2, (∀ b o, b ≠ e → hp.get? b = some o → G.get? b = some o) → G.get? e = some (PySem.W.excObj C t1 (some hp.objs.size) .none) → G.Ns1 hp.objs.size (fun y => if y = f then some v else none) → R (.ok (.ret .none)) ⟨G, g, d, tk2, os⟩) :
    codeAny (model prog w) A (.call (.builtin "object.__setattr__") ⟨[.ref e, .str f tk, v], []⟩) R ⟨hp, g, d, t, os⟩ := by
  obtain ⟨cd, c1, c2⟩ := PySem.W.any_some dct
  have lt : e ≠ hp.objs.size := Nat.ne_of_lt (Heap.lt_size he)
  refine PySem.W.osa_openX (s := ⟨hp, g, d, t, os⟩) (od := none) SF kin ⟨he, rfl, rfl, trivial⟩ over (r := none) (by unfold PySem.W.takerIn; rw [no]; rfl) fun _ => ?_
  refine wpAny_bind (wpAny_pure (wpAny_bind (PySem.W.instanceDict_exc he (PySem.W.looks_clsIn kin c1) c2 ?_)))
  have old := Heap.get?_push_of_some (h := hp) (PySem.W.dictOf [] 0) he
  refine HandSPX.store_in_new ⟨_, #[], _, (Heap.get?_update_other _ _ lt).trans (Heap.get?_push_at rfl rfl), rfl, fun z hz => absurd hz (by simp), fun _ => rfl⟩ fun G tk2 n1 same => done G tk2 (fun b o b1 hb => ?_) ?_ n1
  · rw [same.2 b (Nat.ne_of_lt (Heap.lt_size hb)), Heap.get?_update_other _ _ (Ne.symm b1)]
    exact Heap.get?_push_of_some _ hb
  · rw [same.2 e lt]
    exact Heap.get?_update_self _ old rfl
end
/-- what the written part says of such a class -/
def oneB (K : PySem.W.Frag) (x f : Str) (bmB : List Value) (newId : String) : Bool :=
  let C := He.ga K x
  xfB K C && (PySem.W.excInitIn K C bmB newId && (PySem.W.excOver K C bmB && (PySem.W.keepIn K (.ref C) && (decide (PySem.W.typeIn K (.ref C) = some (.type "type")) && (He.eqO (PySem.W.findIn K (.ref C) f) (some none) &&
  (He.eqO (PySem.W.findIn K (.ref C) "__setattr__") (some (some (.builtin "object.__setattr__"))) && (He.eqO (PySem.W.findIn K (.ref C) "__init__") (some (some (.ref (He.ma K C "__init__")))) && PySem.W.isFn K (.ref (He.ma K C "__init__")))))))))
structure OneF (K : PySem.W.Frag) (C : Addr) (f : Str) (bmB : List Value) (newId : String) : Prop extends XfC K C where
  made : PySem.W.excInitIn K C bmB newId = true ∧ PySem.W.keepIn K (.ref C) = true
  over : PySem.W.excOver K C bmB = true
  tyC : PySem.W.typeIn K (.ref C) = some (.type "type") ∧ PySem.W.findIn K (.ref C) f = some none
  set_ : PySem.W.findIn K (.ref C) "__setattr__" = some (some (.builtin "object.__setattr__"))
theorem oneB_ok {K : PySem.W.Frag} {x f : Str} {bmB : List Value} {newId : String} (h : oneB K x f bmB newId = true) : OneF K (He.ga K x) f bmB newId ∧ PySem.W.findIn K (.ref (He.ga K x)) "__init__" = some (some (.ref (He.ma K (He.ga K x) "__init__"))) ∧ PySem.W.typeIn K (.ref (He.ma K (He.ga K x) "__init__")) = some (.type "function") := by
  unfold oneB at h
  simp only [Bool.and_eq_true] at h
  obtain ⟨xf, ini, ov, kp, ty, no, st, im, fn⟩ := h
  exact ⟨{ toXfC := xfB_ok xf, made := ⟨ini, kp⟩, over := ov, tyC := ⟨of_decide_eq_true ty, He.eqO_ok no⟩, set_ := He.eqO_ok st }, He.eqO_ok im, beq_iff_eq.mp fn⟩
section
variable {X : Cx} {pins : List (Addr × Obj)} {σ : L2.St} {H : Hp} {s : Shared} {a C dx : Addr} {f : Str} {y : V} {u : Value} {Q : Unit → Shared → Prop} {E : Value → Shared → Prop} {A : Around} {B newId : String} {bmB : List Value}
/-- the heap behind the first field: the dict is new, all but the object stands -/
theorem un_first {hp G : Heap} {t1 : Addr} (ok : HOk X.prog X.w H hp) (e : H a = some (exo a C none)) (ge : G.get? a = some (PySem.W.excObj C t1 (some hp.objs.size) .none)) (kp : ∀ b o, b ≠ a → hp.get? b = some o → G.get? b = some o) :
    Un X.fs [] H (upd (upd H hp.objs.size (exd hp.objs.size [(f, y)])) a (exo a C (some hp.objs.size))) hp G := by
  have new : H hp.objs.size = none := ok.fresh (Nat.le_refl _)
  have stay : ∀ {b : Addr} {v : HO}, H b = some v → exo a C none ≠ v → upd (upd H hp.objs.size (exd hp.objs.size [(f, y)])) a (exo a C (some hp.objs.size)) b = some v := fun h n => by
    rw [upd_ne (at_ne e h n), upd_ne (ne_of_none h new), h]
  have off : ∀ {b : Addr}, H b = none → b ≠ a := fun h z => by rw [z, e] at h; cases h
  exact {
    keep := fun b o h n _ _ => kp b o (off n) h
    slot := fun b o h n _ _ => ⟨_, kp b o (off n) h⟩
    free := fun b o h n _ => by rw [upd_ne (off n), upd_ne (Nat.ne_of_lt (Heap.lt_size h)), n]
    there := fun b o h _ => (Classical.em (b = a)).elim (fun z => ⟨_, (congrArg G.get? z).trans ge⟩) fun z => ⟨o, kp b o z h⟩
    tups := fun b xs h => stay h exo_tup
    frzs := fun b o v h => stay h exo_frz
    tbls := fun b ps h => ⟨#[], by rw [stay h exo_tbl, Array.append_empty]⟩ }
/-- self.f = y -/
theorem put_first (SF : StoreFacts B bmB "object.__setattr__" "object") (T : OneF X.K C f bmB newId) (I : Inv X pins σ H s) (e : H a = some (exo a C none)) (ry : RelV y u)
    (next : ∀ dx s2, H dx = none → dx ≠ a → Inv X pins σ (upd (upd H dx (exd dx [(f, y)])) a (exo a C (some dx))) s2 → Q () s2) : wpAny (model X.prog X.w) A (setAttr (.ref a) f u) Q E s := by
  obtain ⟨t1, at_⟩ := exo_at I.hok e
  cases s with
  | mk hp g d t os =>
  have at_ : hp.get? a = some (PySem.W.excObj C t1 none .none) := at_
  refine PySem.W.set_plain (od := none) I.kIn ⟨at_, rfl, rfl, trivial⟩ T.set_ (first_field SF I.kIn at_ T.over T.hdC T.tyC.2 fun G tk2 kp ge n1 => ?_)
  have new : H hp.objs.size = none := I.hok.fresh (Nat.le_refl _)
  have apart : hp.objs.size ≠ a := Ne.symm (Nat.ne_of_lt (Heap.lt_size at_))
  refine next hp.objs.size _ new apart (I.un (t' := tk2) (un_first I.hok e ge kp) fun b o h => ?_)
  rcases Classical.em (b = a) with rfl | b1
  · rw [upd_same] at h
    exact Option.some.inj h ▸ exo_ok ge
  rw [upd_ne b1] at h
  rcases Classical.em (b = hp.objs.size) with rfl | b2
  · rw [upd_same] at h
    exact Option.some.inj h ▸ exd_ok n1 (relO_put (fs := []) ry fun _ => trivial)
  rw [upd_ne b2] at h
  have stay : ∀ {c : Addr} {v : HO}, H c = some v → exo a C none ≠ v → upd (upd H hp.objs.size (exd hp.objs.size [(f, y)])) a (exo a C (some hp.objs.size)) c = some v := fun hc n => by
    rw [upd_ne (at_ne e hc n), upd_ne (ne_of_none hc new), hc]
  refine (I.hok b o h).stay (fun c v hc => kp c v ?_) (fun c hc => stay hc exo_own) fun c xs hc => stay hc exo_tup
  rcases hc with rfl | hc
  · exact b1
  · exact at_ne e hc exo_own
end
/-- a class's rows -/
def rowsOf : Stmt → List Stmt
  | .ClassDef (body := b) .. => b
  | _ => []
/-- such an __init__: the object, its value -/
def spI (C : Addr) (f : Str) : Sp := fun vs H Q _ => ∃ (a : Addr) (y : V), vs = [.ref a, y] ∧ H a = some (exo a C none) ∧ ∀ dx, H dx = none → dx ≠ a → Q .non (upd (upd H dx (exd dx [(f, y)])) a (exo a C (some dx)))
/-- the one row of its body -/
def initBody (b : List Stmt) (f : Str) : Prop := ∃ (p1 p2 p3 p4 : Pos), b = [.Assign [.Attribute (.Name "self" p1) f p2] (.Name f p3) p4]
section
variable {P : Program} {w : World} {K : PySem.W.Frag} {mg : Str → Option Value} {base : Heap} {C fI : Addr} {f qual : Str} {params : Arguments} {body : List Stmt} {scope : Scope} {fd : FuncData} {B newId initId : String} {bmB : List Value}
theorem init_one (SF : StoreFacts B bmB "object.__setattr__" "object") (T : OneF K C f bmB newId) (F : FunD K "__init__" qual params body scope [] [] fI fd) (hb : initBody body f) (S : FnScope ["self", f] ["self", f] scope) (v0 : Vis scope "self") (v1 : Vis scope f)
    (n1 : (f == ("__debug__" : Str)) = false := by decide) (n2 : (f == ("__classdict__" : Str)) = false := by decide) : FnOk P w K mg base (L2.CX P w) 1 fI fd ["self", f] (spI C f) := by
  obtain ⟨oc, od, dV, kV, doc, pm, an, cdv, ct, osl, rfl, lk, hcd, _, _⟩ := F.ex
  obtain ⟨p1, p2, p3, p4, rfl⟩ := hb
  refine fn_of lk hcd S (fun vs H Q E h => ?_) fun A outer s H vs Q E hr hsp => ?_
  · obtain ⟨a, y, e, _⟩ := h
    rw [e]
    rfl
  obtain ⟨a, y, e, ha, q⟩ := hsp
  subst e
  refine ⟨fun D σ H1 => σ = [some (.ref a), some y] ∧ H1 = H ∧ ∀ dx, H dx = none → dx ≠ a → D.nx σ (upd (upd H dx (exd dx [(f, y)])) a (exo a C (some dx))), pss_one ⟨fun pins s1 σ H1 D I hh => ?_⟩, rfl, rfl, q⟩
  obtain ⟨rfl, rfl, q2⟩ := hh
  refine plainObj_wpAny_Assign_Attribute (thn ((pe_var (X := cxOf (L2.CX P w) P w K mg base ["self", f] qual scope fI cdv A outer s H1 E) (i := 1) (pos := p3) rfl v1 n1 n2).run pins s1 _ H1 (fun v H2 => v = y ∧ H2 = H1) I ⟨y, rfl, rfl, rfl⟩) fun v s2 ⟨y2, H2, I2, ry, e1, e2⟩ => ?_) rfl
  subst e1 e2
  refine thn ((pe_var (X := cxOf (L2.CX P w) P w K mg base ["self", f] qual scope fI cdv A outer s H2 E) (i := 0) (pos := p1) rfl v0 (by decide) (by decide)).run pins s2 _ H2 (fun v H3 => v = .ref a ∧ H3 = H2) I2 ⟨.ref a, rfl, rfl, rfl⟩) fun u s3 ⟨x3, H3, I3, rx, e3, e4⟩ => ?_
  subst e3 e4
  obtain rfl : u = Value.ref a := rx
  exact put_first (X := cxOf (L2.CX P w) P w K mg base ["self", f] qual scope fI cdv A outer s H3 E) SF T I3 ha ry fun dx s' n ne J => ⟨_, _, J, q2 dx n ne⟩
end
section
variable {X : Cx} {k : Nat} {x f : Str} {C fI : Addr} {fd : FuncData} {p pos : Pos} {e : Expr} {ta : TA} {B newId initId : String} {bmB : List Value}
/-- what the new object's __init__ leaves is the heap ahead of it and the fields' dict -/
def MadeQ (H : Hp) (a C : Addr) (f : Str) (y : V) : VK := fun v G => v = .non ∧ ∃ d : Addr, G a = some (exo a C (some d)) ∧ G d = some (exd d [(f, y)]) ∧ H d = none ∧ upd (del G a) d (.xd [(f, y)]) = upd H d (.xd [(f, y)])
theorem sp_new {H : Hp} {a : Addr} {y : V} (free : H a = none) : spI C f [.ref a, y] (upd H a (exo a C none)) (MadeQ H a C f y) (fun _ _ _ => False) := by
  refine ⟨a, y, rfl, upd_same, fun dx n ne => ⟨rfl, dx, upd_same, (upd_ne ne).trans upd_same, (upd_ne ne).symm.trans n, funext fun b => ?_⟩⟩
  rcases Classical.em (b = dx) with rfl | b1
  · rw [upd_same, upd_same]
  rcases Classical.em (b = a) with rfl | b2
  · rw [upd_ne b1, upd_ne b1, del_same, free]
  · rw [upd_ne b1, upd_ne b1, del_ne b2, upd_ne b2, upd_ne b1, upd_ne b2]
/-- C(e): the field's value alone is told -/
theorem pmk_one {CX : CXT} (FB : ExcBaseFacts B newId initId bmB) (T : OneF X.K C f bmB newId) (iC : PySem.W.findIn X.K (.ref C) "__init__" = some (some (.ref fI))) (tI : PySem.W.typeIn X.K (.ref fI) = some (.type "function"))
    (F1 : FnOk X.prog X.w X.K X.mg X.base CX k fI fd ["self", f] (spI C f)) (hr : Room (k + 1) X.A) (bd : Binds X.K fd ["self", f] []) (quiet : Passes CX X (fun _ _ _ => False)) (gx : Gl X x) (mx : X.mg x = some (.ref C)) (ha : PA X [e] ta)
    (nd : (x == ("__debug__" : Str)) = false := by decide) (se : starEach [e] X.env = (false, eval e X.env) :: starEach [] X.env := by rfl) :
    PMk X (.Call (.Name x p) [e] [] pos) (fun σ H Q => ta σ H fun vs H1 => ∃ y, vs = [y] ∧ ∀ d, H1 d = none → Q (.ref C) (some d) (upd H1 d (.xd [(f, y)]))) := fun pins s σ H Q I h => by
  refine wpAny_Call_Name_kw (ld_glob I gx mx (PySem.W.callWith_K (h₀ := X.base) I.ok.mod.kin T.made.2 (thn (ha.run pos pins s σ H _ I h) fun us s1 ⟨vs, H1, I1, rv, y, ey, told⟩ => ⟨I1.kIn, ?_⟩) se rfl) nd)
  cases ey
  obtain ⟨u, eu, ru⟩ := vals1 rv
  cases eu
  cases s1 with
  | mk hp g dr tk os =>
  have ⟨_, _, _, _, _, _, _, _, _, _, _, _, _, _, _, _, cls, tail⟩ := PySem.W.excInit_of I1.kIn T.made.1
  -- the tuple of its arguments, then the object
  let a : Addr := hp.objs.size + 1
  let G : Heap := (hp.push (PySem.W.kdv_tup [u])).push (PySem.HandSPX.excO C hp.objs.size)
  have up : ∀ b o, hp.get? b = some o → G.get? b = some o := fun b o z => Heap.get?_push_of_some _ (Heap.get?_push_of_some _ z)
  have free : H1 a = none := I1.hok.fresh (Nat.le_succ hp.objs.size)
  have ga : G.get? a = some (PySem.HandSPX.excO C hp.objs.size) := by
    show Heap.get? ((hp.push (PySem.W.kdv_tup [u])).push (PySem.HandSPX.excO C hp.objs.size)) (hp.objs.size + 1) = _
    heap_get
  have I2 : Inv X pins σ (upd H1 a (exo a C none)) ⟨G, g, dr, tk, os⟩ := I1.laid up (Nat.le_succ hp.objs.size) (exo_ok ga)
  have both : Vals [V.ref a, y] [Value.ref a, u] := .cons rfl rv
  have bound : BindsTo ⟨G, g, dr, tk, os⟩ fd ⟨[.ref a, u], []⟩ ((["self", f] : List Str).zip [Value.ref a, u]) := bd _ [.ref a, u] I2.kIn rfl
  refine wpAny_call (PySem.HandSPX.call_own FB tail cls (PySem.W.looks_findIn I1.kIn iC) (fun self => PySem.W.bind_fn I1.kIn self tI) (show 1 ≤ sizeLine from by rw [sizeLine_eq]; decide) (codeAny_mono
    (F1.run _ X.stack ⟨G, g, dr, tk, os⟩ _ ⟨[.ref a, u], []⟩ [.ref a, u] [.ref a, y] _ _ (hr.make C [u] []) (I2.env0.make C [u] []) bound both (sp_new free)) fun r s2 back => ?_))
  match r, back with
  | .error er, back => exact quiet pins σ _ _ er s2 I2 back
  | .ok (.ret _), ⟨v, H2, o2, bare, un, ok2, rv2, eV, d, e1, e2, e3, e4⟩ =>
    cases eV
    exact ⟨rv2, mk_end (raises_own T.exC T.tyC.1) I1 (Nat.le_succ hp.objs.size) up un ok2 o2 bare e1 e2 e3 (by rw [e4]; exact told d e3)⟩
end
/-- raise C(e): the field f has e's value -/
def sRaiseF (x f : Str) (te : TEd) : TSd := fun env S N => te env S (fun d S1 => ∀ dd, S1 dd = none → N.ex ⟨x, [(f, d)]⟩ env (sup S1 dd (xdC [(f, d)]))) fun y S1 => N.ex y env S1
theorem moRaiseF {x f : Str} {te : TEd} (h : MoE te) : MoS (sRaiseF x f te) := fun env S A B l q => h _ _ _ _ _ _ (fun _ _ z dd n => l.ex _ _ _ (z dd n)) (fun _ _ z => l.ex _ _ _ z) q
section
variable {P : Program} {w : World} {K : PySem.W.Frag} {mg : Str → Option Value} {base : Heap} {N : List Str} {sc : Scope} {vw : Vw} {k : Nat} {X : Cx} {W : WX}
theorem js_raiseF {x f qual : Str} {params : Arguments} {body : List Stmt} {scope : Scope} {fd : FuncData} {B newId initId : String} {bmB : List Value} {e : Expr} {te : TEd} {p p3 pos : Pos} (c : JC P w K mg base N sc vw k X W) (hk : 2 ≤ k) (FB : ExcBaseFacts B newId initId bmB) (SF : StoreFacts B bmB "object.__setattr__" "object")
    (hx : x ∈ vw.gs) (hg : (He.Fa.glo x).ok K = true) (hm : mg x = some (.ref (He.ga K x))) (q : oneB K x f bmB newId = true) (F : FunD K "__init__" qual params body scope [] [] (He.ma K (He.ga K x) "__init__") fd) (hb : initBody body f) (S : FnScope ["self", f] ["self", f] scope) (v0 : Vis scope "self") (v1 : Vis scope f)
    (bd : Binds K fd ["self", f] []) (he : JE X W e te) (hs : starEach [e] X.env = (false, eval e X.env) :: starEach [] X.env := by rfl)
    (n1 : (f == ("__debug__" : Str)) = false := by decide) (n2 : (f == ("__classdict__" : Str)) = false := by decide) : JS X W (.Raise (some (.Call (.Name x p) [e] [] p3)) none pos) (sRaiseF x f te) := by
  obtain ⟨T, iC, tI⟩ := oneB_ok q
  have eg : PySem.W.nsIn K mainGlobals x = some (some (.ref (He.ga K x))) := He.eqO_ok hg
  have F1 : FnOk P w K mg base (L2.CX P w) 1 (He.ma K (He.ga K x) "__init__") fd ["self", f] (spI (He.ga K x) f) := init_one SF T F hb S v0 v1 n1 n2
  obtain ⟨rfl, rfl, rfl, rfl, rfl⟩ : X.prog = P ∧ X.w = w ∧ X.K = K ∧ X.mg = mg ∧ X.base = base := ⟨c.prog, c.ww, c.kk, c.gg, c.bb⟩
  have hmk := pmk_one (X := X) (e := e) (p := p) (pos := p3) (ta := tCons (LE X.K W te) tNil) FB T iC tI F1 (c.room.mono hk) bd (fun pins σ H s e s' I z => ?_) (c.gl hx) hm (pa_cons he.pe pa_nil hs) (c.sC.gl x hx).2.2 hs
  · refine ⟨PS.imp (ps_raise c.calm c.tk hmk) fun M σ H h => ?_, moRaiseF he.mo⟩
    obtain ⟨Z, env, S, re, rs, h⟩ := h
    refine LE.of he.mo re rs h (fun d S1 v H1 q1 a1 r1 => ?_) fun y S1 c2 dx H1 q1 a1 r1 => q1 c2 dx σ H1 a1 (re.step a1.st rs) r1
    refine ⟨v, rfl, fun dx n => ?_⟩
    have a2 := a1.rs.newO (o := .xd [(f, v)]) (ds := xdC [(f, d)]) n ⟨[d], rfl, .cons r1 .nil⟩
    exact q1 dx (a1.rs.free n) _ (some dx) σ _ (a1.trans a2) ((re.step a1.st rs).step a2.st a1.rs) ⟨⟨_, eg, rfl⟩, List.cons_ne_nil _ _, sup_same⟩
  · obtain ⟨_, _, _, _, _, _, _, _, _, _, _, _, hE⟩ := z
    exact hE.elim
/-- the same with the __init__ as the head tells it -/
theorem js_raiseF' {x f qual : Str} {params : Arguments} {body : List Stmt} {scope : Scope} {B newId initId : String} {bmB : List Value} {e : Expr} {te : TEd} {p p3 pos : Pos} (c : JC P w K mg base N sc vw k X W) (hk : 2 ≤ k) (FB : ExcBaseFacts B newId initId bmB) (SF : StoreFacts B bmB "object.__setattr__" "object")
    (hx : x ∈ vw.gs) (hg : (He.Fa.glo x).ok K = true) (hm : mg x = some (.ref (He.ga K x))) (q : oneB K x f bmB newId = true) (F : ∃ fd, FunD K "__init__" qual params body scope [] [] (He.ma K (He.ga K x) "__init__") fd) (hb : initBody body f) (S : FnScope ["self", f] ["self", f] scope) (v0 : Vis scope "self") (v1 : Vis scope f)
    (bd : ∀ (kV doc pm : Value) (an : Option Addr) (cdv ct : Value) (us : List Value), us.length = 2 → bindArgs (PySem.W.fnOf "__init__" qual params body scope .none kV doc pm an cdv ct) ⟨us, []⟩ = pure ((["self", f] : List Str).zip us)) (he : JE X W e te) (hs : starEach [e] X.env = (false, eval e X.env) :: starEach [] X.env := by rfl)
    (n1 : (f == ("__debug__" : Str)) = false := by decide) (n2 : (f == ("__classdict__" : Str)) = false := by decide) : JS X W (.Raise (some (.Call (.Name x p) [e] [] p3)) none pos) (sRaiseF x f te) := by
  obtain ⟨fd, F⟩ := F
  refine js_raiseF c hk FB SF hx hg hm q F hb S v0 v1 ?_ he hs n1 n2
  obtain ⟨oc, od, dV, kV, doc, pm, an, cdv, ct, osl, rfl, lk, code, hD, _⟩ := F.ex
  rcases hD with ⟨_, rfl⟩ | ⟨z, _⟩
  · exact Binds.all fun us l => bd kV doc pm an cdv ct us l
  · exact absurd rfl z
end
end Bl

/-! except C as e, where e has fields: isinstance of e, e.f -/
namespace Bl
open PySem PySem.Spec PyProof.Rows L2
theorem RS.atX {K : Kz} {S : Sto} {H : Hp} {p : Addr} {fs : List (Str × D)} (rs : RS K S H) (e : S p = some (xdC fs)) : ∃ fv : List (Str × V), H p = some (.xd fv) ∧ (fs.map (·.1)) = fv.map (·.1) ∧ RpL K S H (fs.map (·.2)) (fv.map (·.2)) := by
  obtain ⟨o, q, r⟩ := rs.at_ p _ e
  cases o with
  | lst vs =>
    have r : RpL K S H (xdC fs) vs := r
    cases r with
    | cons r1 _ =>
      have r1 : Rp K S H (.ins 0 [Str.empty] []) _ := r1
      cases r1 with
      | ins h1 h2 h3 h4 =>
        have l := congrArg List.length h3
        have l2 := h4.length
        simp only [List.length_map, List.length_cons, List.length_nil] at l l2
        omega
  | xd fv =>
    obtain ⟨vs, e1, r⟩ := r
    have e1 : xTag :: .tup ((fs.map (·.1)).map D.str) :: fs.map (·.2) = xTag :: .tup ((fv.map (·.1)).map D.str) :: vs := e1
    injection e1 with _ e1
    injection e1 with e2 e3
    injection e2 with e2
    subst e3
    have inj : ∀ {a b : Str}, D.str a = D.str b → a = b := fun z => D.str.inj z
    exact ⟨fv, q, (List.map_inj_right (fun _ _ z => inj z)).mp e2, r⟩
  | ins C dx fv =>
    obtain ⟨vs, e1, _⟩ := r
    exact absurd (List.cons.inj e1).1 fun z => by unfold xTag at z; cases z
  | dK kvs =>
    obtain ⟨ks, vs, e1, _⟩ := r
    exact absurd (List.cons.inj e1).1 fun z => by unfold xTag at z; cases z
  | _ => exact r.elim
theorem look_cons {α : Type} (g f : Str) (y : α) (l : List (Str × α)) : List.lookup g ((f, y) :: l) = if g = f then some y else List.lookup g l := by
  by_cases h : g = f
  · subst h
    simp [List.lookup]
  · have e : (g == f) = false := by simpa using h
    rw [if_neg h]
    simp [List.lookup, e]
theorem look_rel {K : Kz} {S : Sto} {H : Hp} {f : Str} {d : D} : ∀ {fs : List (Str × D)} {fv : List (Str × V)}, fs.map (·.1) = fv.map (·.1) → RpL K S H (fs.map (·.2)) (fv.map (·.2)) → fs.lookup f = some d → ∃ v, fv.lookup f = some v ∧ Rp K S H d v
  | [], _, _, _, h => by cases h
  | (g, y) :: fs, [], e, _, _ => by cases e
  | (g, y) :: fs, (g', v) :: fv, e, r, h => by
    injection e with e1 e2
    have e1 : g = g' := e1
    subst e1
    cases r with
    | cons r1 r2 =>
      rw [look_cons] at h ⊢
      by_cases z : f = g
      · rw [if_pos z] at h ⊢
        cases h
        exact ⟨v, rfl, r1⟩
      · rw [if_neg z] at h ⊢
        obtain ⟨v2, h1, h2⟩ := look_rel e2 r2 h
        exact ⟨v2, h1, h2⟩
/-! ### the one that is held -/
/-- the suite's context: a of the class Dc, its fields at dd -/
structure JXF (K : PySem.W.Frag) (mg : Str → Option Value) (N : List Str) (sc : Scope) (vw : Vw) (a dd Dc : Addr) (X : Cx) : Prop extends JC0 K mg N sc vw X where
  xc : ∃ (X0 : Cx) (oe : Obj) (pn : List (Addr × Obj)), X = X0.suite a ((a, oe) :: pn) ∧ Zc (.ref Dc) (some dd) oe ∧ ∃ vs, oe.data = .fields vs
/-- isinstance(e, ..) -/
def dIsF (i : Nat) (a dd : Addr) (b : Option Bool) : TEd := fun env S Q _ => env[i]? = some (some (.obj a)) ∧ (∃ fs, S dd = some (xdC fs)) ∧ match b with
  | some b => Q (.bl b) S
  | none => False
theorem moIsF {i : Nat} {a dd : Addr} {b : Option Bool} : MoE (dIsF i a dd b) := fun env S Q Q' E E' hq he q => ⟨q.1, q.2.1, by
  have q2 := q.2.2
  split at q2 <;> first | exact hq _ _ q2 | exact q2⟩
/-- e.f -/
def dXf (i : Nat) (a dd : Addr) (f : Str) : TEd := fun env S Q _ => env[i]? = some (some (.obj a)) ∧ ∃ (fs : List (Str × D)) (d : D), S dd = some (xdC fs) ∧ fs.lookup f = some d ∧ Q d S
theorem moXf {i : Nat} {a dd : Addr} {f : Str} : MoE (dXf i a dd f) := fun env S Q Q' E E' hq he q => by
  obtain ⟨q1, fs, d, q2, q3, q4⟩ := q
  exact ⟨q1, fs, d, q2, q3, hq _ _ q4⟩
/-- what isinstance asks of a held one with fields: one class, or a tuple of classes -/
def rIsX (K : PySem.W.Frag) (Dc a dd : Addr) : List V → Hp → VK → Prop := fun xs H Q => (∃ fv, H dd = some (.xd fv)) ∧ ∃ b, Q (.bl b) H ∧
  ((∃ (c : V) (cv : Value), xs = [.ref a, c] ∧ (∀ u, RelV c u → u = cv) ∧ PySem.W.kitOne K (.ref Dc) cv = some b) ∨
    ∃ (tp : Addr) (vs : List V) (cvs : List Value), xs = [.ref a, .ref tp] ∧ H tp = some (.tup vs) ∧ (∀ us, Vals vs us → us = cvs) ∧ PySem.W.kitAny K (.ref Dc) cvs = some b)
theorem call_isX {X : Cx} {a dd Dc : Addr} {oe : Obj} {pn : List (Addr × Obj)} (C : ExcC X.K Dc) (hz : Zc (.ref Dc) (some dd) oe) (hf : ∃ vs, oe.data = .fields vs) : CallR (X.suite a ((a, oe) :: pn)) (.builtin "isinstance") (rIsX X.K Dc a dd) := by
  intro pins s σ H xs us Q I r h
  obtain ⟨⟨fv, ex⟩, b, q, h⟩ := h
  obtain ⟨cd, hcl, _⟩ := PySem.W.any_some C.hd
  have seen := (I.pin (a, oe) (List.mem_append_left _ List.mem_cons_self)).1
  obtain ⟨vs0, data⟩ := hf
  have xok : ObjOk X.prog X.w H s.heap dd (.xd fv) := I.hok dd _ ex
  obtain ⟨mA, hns, _⟩ := xok
  obtain ⟨od, there, _⟩ := lookIn_ns hns
  have J : PySem.W.InstAt s.heap a oe Dc (some od) := ⟨seen, hz.1, by unfold PySem.W.notCls; rw [data] <;> rfl, by rw [hz.2]; exact there⟩
  have kx := PySem.W.kitx_exc (x := a) (ox := oe) (od := some od) (by rw [hcl]; rfl) C.hg C.hk C.hs C.ha C.hn C.ht C.hm
  rcases h with ⟨c, cv, rfl, hcv, e⟩ | ⟨tp, vs, cvs, rfl, at_, hcv, e⟩
  · cases r with
    | cons rx rr =>
      cases rr with
      | cons rt rr =>
        cases rr
        cases rx
        cases hcv _ rt
        exact PySem.W.kia_one kx I.kIn J e (fun z => nomatch z) fun tk => ⟨.bl b, H, I.tok _, rfl, q⟩
  · cases r with
    | cons rx rr =>
      cases rr with
      | cons rt rr =>
        cases rr
        cases rx
        cases rt
        obtain ⟨_, its, rits, o, g1, g2, n, g3⟩ := I.hok tp _ at_
        cases hcv _ rits
        refine PySem.W.kia_tup kx I.kIn J (tp := tp) (dd := o.dict) (n := n) (sl := o.slots) ?_ e (fun z => nomatch z) fun tk => ⟨.bl b, H, I.tok _, rfl, q⟩
        rw [g1, ← g2, ← g3]
section
variable {K : PySem.W.Frag} {mg : Str → Option Value} {N : List Str} {sc : Scope} {vw : Vw} {X : Cx} {W : WX} {a dd Dc : Addr}
theorem je_isF (c : JXF K mg N sc vw a dd Dc X) (i : Nat) {x y : Str} {p q r pos : Pos} {u : Value} {b : Option Bool} (C : ExcC K Dc) (hi : i ∈ vw.vl) (hN : N[i]? = some x) (hs : ("isinstance" : Str) ∈ vw.gs) (hm : mg "isinstance" = none) (hy : y ∈ vw.gs) (hu : JCl K mg y u)
    (hb : ∀ b', b = some b' → PySem.W.kitOne K (.ref Dc) u = some b') (he : starEach [.Name x p, .Name y q] X.env = (false, eval (.Name x p) X.env) :: starEach [.Name y q] X.env := by rfl) : JE X W (.Call (.Name "isinstance" r) [.Name x p, .Name y q] [] pos) (dIsF i a dd b) := by
  obtain ⟨X0, oe, pn, ex, hz, hf⟩ := c.xc
  obtain ⟨v1, v2, v3⟩ := c.sC.vis i hi x hN
  have cr : CallR X (.builtin "isinstance") (rIsX X.K Dc a dd) := by
    have C2 : ExcC X.K Dc := by rw [c.kk]; exact C
    subst ex
    exact call_isX C2 hz hf
  refine ⟨PE.imp (pe_callB cr (c.gl hs) (by rw [c.gg]; exact hm) (by decide +kernel) (pa_cons (pe_var (i := i) (by rw [c.nn]; exact hN) (by rw [c.ss]; exact v1) v2 v3) (pa_cons (pe_cl c.toJC0 hy hu) pa_nil) he) (c.sC.gl _ hs).2.1 (c.sC.gl _ hs).2.2 he) fun σ H Q h => ?_, moIsF⟩
  obtain ⟨Z, env, S, re, rs, e1, ⟨fs, e2⟩, q1⟩ := h
  split at q1 <;> first | exact q1.elim | skip
  rename_i b'
  obtain ⟨v, e3, r3⟩ := re.at_ i _ e1
  cases r3
  obtain ⟨fv, e4, _⟩ := rs.atX e2
  exact ⟨_, e3, ⟨fv, e4⟩, b', q1 _ H (.refl rs) (.bl _), .inl ⟨_, u, rfl, fun w hw => relU hu hw, by rw [c.kk]; exact hb b' rfl⟩⟩
theorem je_isTF (c : JXF K mg N sc vw a dd Dc X) (i : Nat) {x : Str} {p r tp pos : Pos} {es : List Expr} {n : Nat} {us : List Value} {b : Option Bool} (C : ExcC K Dc) (hi : i ∈ vw.vl) (hN : N[i]? = some x) (hs : ("isinstance" : Str) ∈ vw.gs) (hm : mg "isinstance" = none) (pc : PCls X es us) (hl : us.length ≤ 1000)
    (hb : ∀ b', b = some b' → PySem.W.kitAny K (.ref Dc) us = some b') (he : starEach [.Name x p, .Tuple es n tp] X.env = (false, eval (.Name x p) X.env) :: starEach [.Tuple es n tp] X.env := by rfl) (he2 : starEach [.Tuple es n tp] X.env = (false, eval (.Tuple es n tp) X.env) :: starEach [] X.env := by rfl) : JE X W (.Call (.Name "isinstance" r) [.Name x p, .Tuple es n tp] [] pos) (dIsF i a dd b) := by
  obtain ⟨X0, oe, pn, ex, hz, hf⟩ := c.xc
  obtain ⟨v1, v2, v3⟩ := c.sC.vis i hi x hN
  obtain ⟨ta, p1, p2⟩ := pc.pa
  have cr : CallR X (.builtin "isinstance") (rIsX X.K Dc a dd) := by
    have C2 : ExcC X.K Dc := by rw [c.kk]; exact C
    subst ex
    exact call_isX C2 hz hf
  refine ⟨PE.imp (pe_callB cr (c.gl hs) (by rw [c.gg]; exact hm) (by decide +kernel) (pa_cons (pe_var (i := i) (by rw [c.nn]; exact hN) (by rw [c.ss]; exact v1) v2 v3) (pa_cons (pe_tup p1) pa_nil he2) he) (c.sC.gl _ hs).2.1 (c.sC.gl _ hs).2.2 he) fun σ H Q h => ?_, moIsF⟩
  obtain ⟨Z, env, S, re, rs, e1, ⟨fs, e2⟩, q1⟩ := h
  split at q1 <;> first | exact q1.elim | skip
  rename_i b'
  obtain ⟨v, e3, r3⟩ := re.at_ i _ e1
  cases r3
  obtain ⟨fv, e4, _⟩ := rs.atX e2
  refine ⟨_, e3, p2 σ H _ ⟨by rw [List.length_map]; exact Nat.le_of_lt (small1000 hl), fun q hq => ?_⟩⟩
  exact ⟨⟨fv, by rw [upd_ne (ne_of_none e4 hq)]; exact e4⟩, b', q1 _ _ (rs.newN (o := .tup (us.map vOfU)) hq) (.bl _), .inr ⟨q, _, us, rfl, upd_same, pc.rel, by rw [c.kk]; exact hb b' rfl⟩⟩
theorem je_xf (c : JXF K mg N sc vw a dd Dc X) (i : Nat) {x f : Str} {p pos : Pos} (C : XfC K Dc) (no : PySem.W.findIn K (.ref Dc) f = some none) (hi : i ∈ vw.vl) (hN : N[i]? = some x)
    (hb : attributeBase (.Name x p) f X.env (eval (.Name x p) X.env) = eval (.Name x p) X.env := by rfl) : JE X W (.Attribute (.Name x p) f pos) (dXf i a dd f) := by
  obtain ⟨X0, oe, pn, ex, hz, hf⟩ := c.xc
  obtain ⟨v1, v2, v3⟩ := c.sC.vis i hi x hN
  have kk := c.kk
  have eV : PE X (.Name x p) (tVar i) := pe_var (i := i) (by rw [c.nn]; exact hN) (by rw [c.ss]; exact v1) v2 v3
  subst ex kk
  refine ⟨PE.imp (pe_xf C no hz hf eV hb) fun σ H Q h => ?_, moXf⟩
  obtain ⟨Z, env, S, re, rs, e1, fs, d, e2, l, q⟩ := h
  obtain ⟨v, e3, r3⟩ := re.at_ i _ e1
  cases r3
  obtain ⟨fv, e4, e5, r5⟩ := rs.atX e2
  obtain ⟨z, e6, r6⟩ := look_rel e5 r5 l
  exact ⟨_, e3, rfl, rfl, dd, fv, z, rfl, e4, e6, q z H (.refl rs) r6⟩
/-! ### calls of types, texts compared, in a suite -/
theorem je_callTy0 (c : JC0 K mg N sc vw X) {x : Str} {T : String} {g : GB} {e : Expr} {es : List Expr} {u : TAd} {p pos : Pos} (hc : CallD X (.type T) g) (hx : x ∈ vw.gs) (hm : mg x = none) (hv : bootBuiltins x = some (.type T)) (ha : JA X W (e :: es) u) (he : starEach (e :: es) X.env = (false, eval e X.env) :: starEach es X.env := by rfl)
    (hpl : (backTo pos (starEach es X.env)).any (·.1) = false := by rfl) : JE X W (.Call (.Name x p) (e :: es) [] pos) (dB g u) :=
  ⟨PE.imp (pe_callTy hc.run (c.gl hx) (by rw [c.gg]; exact hm) hv ha.pa (c.sC.gl x hx).2.1 (c.sC.gl x hx).2.2 he hpl) fun σ H Q h => dB_imp hc.mo ha.mo h, moB hc.mo ha.mo⟩
end
def fEqT : F2 := fun x y S Q => match x, y with
  | .str i, .str j => Q (.bl (decide (i = j))) S
  | _, _ => False
theorem moEqT : MoF2 fEqT := by (intro x y S Q Q' h q; unfold fEqT at q ⊢; split at q <;> first | exact h _ _ q | exact ⟨q.1, h _ _ q.2⟩ | exact ⟨q.1, q.2.1, h _ _ q.2.2⟩ | exact q.elim)
theorem opD_eqT {X : Cx} : OpD X (compareOp .Eq) fEqT := by
  refine ⟨moEqT, fun pins s σ H x y v u Q Z S dx dy I rx ry rs r1 r2 h => ?_⟩
  cases r1 <;> cases r2 <;> first | exact h.elim | skip
  exact op_eq pins s σ H _ _ v u Q I rx ry ⟨rfl, by
    have z := h _ H (.refl rs) (.bl _)
    simpa using z⟩
/-! ### try, except C as n: C's instances have fields -/
def ndTF (sb : Str → Option Bool) (i : Nat) (u : Addr → Addr → Str → TSd) (N : Nd) : Nd := ⟨N.nx, N.rt, N.bk, N.ct, fun x e S1 => match sb x.nm with
  | some true => x.fs ≠ [] ∧ ∀ a dd, S1 dd = some (xdC x.fs) → u a dd x.nm (e.set i (some (.obj a))) S1 (ndS i N)
  | some false => N.ex x e S1
  | none => False⟩
def sTryF (t : TSd) (sb : Str → Option Bool) (i : Nat) (u : Addr → Addr → Str → TSd) : TSd := fun env S N => t env S (ndTF sb i u N)
theorem moTryF {t : TSd} {sb : Str → Option Bool} {i : Nat} {u : Addr → Addr → Str → TSd} (ht : MoS t) (hu : ∀ a dd nm, MoS (u a dd nm)) : MoS (sTryF t sb i u) := fun env S A B l h => ht _ _ (ndTF sb i u A) (ndTF sb i u B) ⟨l.nx, l.rt, l.bk, l.ct, fun x e S1 q => by
  unfold ndTF at q ⊢
  dsimp only at q ⊢
  split at q
  · exact ⟨q.1, fun a dd z => hu _ _ _ _ _ (ndS i A) _ ⟨fun _ _ z => l.nx _ _ z, l.rt, fun _ _ z => l.bk _ _ z, fun _ _ z => l.ct _ _ z, fun _ _ _ z => z⟩ (q.2 a dd z)⟩
  · exact l.ex _ _ _ q
  · exact q⟩ h
section
variable {P : Program} {w : World} {K : PySem.W.Frag} {mg : Str → Option Value} {base : Heap} {N : List Str} {sc : Scope} {vw : Vw} {k : Nat} {X : Cx} {W : WX}
theorem js_tryF {body suite : List Stmt} {b₀ : Stmt} {t : TSd} {sb : Str → Option Bool} {u : Addr → Addr → Str → TSd} {x n : Str} {C : Addr} {np pos pos' : Pos} (d : JD P w K mg base N sc vw k X W) (i : Nat) (hi : N[i]? = some n) (hl : i ∈ vw.lo) (hx : x ∈ vw.gs) (hm : mg x = some (.ref C))
    (hsb : ∀ nm b Cn, sb nm = some b → PySem.W.nsIn K mainGlobals nm = some (some (.ref Cn)) → PySem.W.exmOne K (.ref Cn) (.ref C) = some b)
    (hb : ∀ X2 W2, JD P w K mg base N sc vw k X2 W2 → JB X2 W2 body t) (mu : ∀ a dd nm, MoS (u a dd nm))
    (hsu : ∀ X2 a dd Dc nm, sb nm = some true → PySem.W.nsIn K mainGlobals nm = some (some (.ref Dc)) → JXF K mg N sc vw a dd Dc X2 → JB X2 W0 (b₀ :: suite) (u a dd nm)) :
    JS X W (.Try body [.ExceptHandler (some (.Name x np)) (some n) (b₀ :: suite) pos'] [] [] pos) (sTryF t sb i u) := by
  have hln : X.env.kindOf n = some .local := by
    show X.env.scope.names.lookup n = _
    rw [d.ss]
    exact d.sC.loc i hl n hi
  have nms : Names X x (.ref C) := ⟨d.toJC.gl hx, (d.sC.gl x hx).2.2, .inl (by rw [d.gg]; exact hm)⟩
  have jd : ∀ (W2 : WX) (pn : List (Addr × Obj)) (xe : Value → Shared → Prop), Takes (X.tr pn xe) W2 → PassesOwn (model X.prog X.w) X.A X.env xe → JD P w K mg base N sc vw k (X.tr pn xe) W2 := fun W2 pn xe tk po =>
    { prog := d.prog, ww := d.ww, kk := d.kk, gg := d.gg, bb := d.bb, nn := d.nn, ss := d.ss, sC := d.sC, nd := d.nd, calm := d.calm, room := d.room, tk := tk, kd := d.kd, gs := d.gs, po := po, fn := d.fn, hs := d.hs, hf := d.hf }
  have mt : MoS t := (hb _ _ d).mo
  have hps := ps_try_as (X := X) (x := x) (n := n) (c := .ref C) (i := i) (body := body) (suite := suite) (b₀ := b₀) (np := np) (pos := pos) (pos' := pos') (Wout := W) (tb := fun W2 => LS X.K W2 t)
    (ts := fun a cls dx M σ H => ∃ nm Dc dd, sb nm = some true ∧ PySem.W.nsIn X.K mainGlobals nm = some (some (.ref Dc)) ∧ cls = .ref Dc ∧ dx = some dd ∧ LS X.K W0 (u a dd nm) M σ H) d.hs d.hf (by rw [d.nn]; exact d.nd) (by rw [d.nn]; exact hi) hln nms d.tk (fun W2 pn xe tk po => (hb _ _ (jd W2 pn xe tk po)).ps) fun a oe cls dx pn hz hf => ?_
  · refine ⟨PS.imp hps fun M σ H h => ?_, moTryF mt mu⟩
    obtain ⟨Z, env, S, re, rs, q⟩ := h
    refine ⟨Z, env, S, re, rs, mt _ _ (ndTF sb i u (LN ⟨X.K, Z⟩ S H W M)) _ ⟨fun _ _ z => z, fun _ _ z => z, fun _ _ z => z, fun _ _ z => z, fun xc e S1 qx c dx σ1 H1 a1 re1 rx => ?_⟩ q⟩
    unfold ndTF at qx
    dsimp only at qx
    obtain ⟨⟨Cn, hn, rfl⟩, hd⟩ := rx
    have hn' : PySem.W.nsIn K mainGlobals xc.nm = some (some (.ref Cn)) := by have z := hn; rw [← d.kk]; exact z
    split at qx
    · rename_i hs1
      refine ⟨true, by rw [d.kk]; exact hsb _ _ _ hs1 hn', fun _ a na => ?_, fun z => absurd z (by decide)⟩
      obtain ⟨dd, rfl, e2⟩ : ∃ dd, dx = some dd ∧ S1 dd = some (xdC xc.fs) := by
        cases dx with
        | none => exact absurd hd qx.1
        | some dd => exact ⟨dd, rfl, hd.2⟩
      exact ⟨xc.nm, Cn, dd, hs1, hn, rfl, rfl, Z, _, S1, re1.set (.obj a) i, a1.rs, mu _ _ _ _ _ (ndS i (LN ⟨X.K, Z⟩ S H W M)) _ ⟨fun e' s z σ' H' a2 r2 => z _ H' (a1.trans a2) (r2.unset i), fun d' s z v H' a2 r2 => z v H' (a1.trans a2) r2, fun e' s z σ' H' a2 r2 => z _ H' (a1.trans a2) (r2.unset i), fun e' s z σ' H' a2 r2 => z _ H' (a1.trans a2) (r2.unset i), fun _ _ _ z => z.elim⟩ (qx.2 a dd e2)⟩
    · rename_i hs1
      exact ⟨false, by rw [d.kk]; exact hsb _ _ _ hs1 hn', fun z => absurd z (by decide), fun _ => qx _ dx σ1 H1 a1 re1 ⟨⟨Cn, hn, rfl⟩, hd⟩⟩
    · exact qx.elim
  · refine ⟨fun pins s σ H M I hh => ?_⟩
    obtain ⟨nm, Dc, dd, h1, h2, rfl, rfl, q⟩ := hh
    have h2' : PySem.W.nsIn K mainGlobals nm = some (some (.ref Dc)) := by rw [← d.kk]; exact h2
    exact (hsu (X.suite a ((a, oe) :: pn)) a dd Dc nm h1 h2' { kk := d.kk, gg := d.gg, nn := d.nn, ss := d.ss, sC := d.sC, nd := d.nd, gs := d.gs, un := (show X.A.units + 65 < cLine from room65 d.room), xc := ⟨X, oe, pn, rfl, hz, hf⟩ }).ps.run pins s σ H M I q
end
end Bl

/-! where no repr is under way: str(..) of data; defs that are called there alone; the law's own call -/
namespace Bl
open PySem PySem.Spec PyProof.Rows L2
/-! ### str -/
/-- data whose text is told -/
def shOk (d : D) : Prop := pl d = true ∧ (py d).showable = true ∧ (py d).hasDict = false ∧ (py d).depth ≤ 16 ∧ (py d).shown.length ≤ sizeLine
def bStrG : GB := fun ds S Q => match ds with
  | [.str x] => Q (.str x) S
  | [.int i] => i.natAbs.log2 < 1920 ∧ Q (.str (toString i)) S
  | [.non] => Q (.str "None") S
  | [.tup ds] => shOk (.tup ds) ∧ Q (.str (py (.tup ds)).shown) S
  | [.lst ds] => shOk (.lst ds) ∧ Q (.str (py (.lst ds)).shown) S
  | _ => False
theorem bStrG_mo (ds : List D) (S : Sto) (Q Q' : DK) (h : ∀ d S, Q d S → Q' d S) (q : bStrG ds S Q) : bStrG ds S Q' := by
  unfold bStrG at q ⊢
  split at q <;> first | exact h _ _ q | exact ⟨q.1, h _ _ q.2⟩ | exact q.elim
section
variable {X : Cx} {k : Nat}
theorem str_seq (hg : X.A.guards = some []) (room : X.A.units + 65 < cLine) {pins : List (Addr × Obj)} {s : Shared} {σ : L2.St} {H : Hp} {Z : Addr → Prop} {S : Sto} {a : Addr} {v : V} {Q : VK} {d : D} (I : Inv X pins σ H s) (rx : RelV v (.ref a)) (r : Rp ⟨X.K, Z⟩ S H d v) (ok : shOk d) (q : Q (.str (py d).shown) H) :
    wpAny (model X.prog X.w) X.A (call (.type "str") [.ref a]) (EP X pins σ Q) X.xe s := by
  obtain ⟨as, rd⟩ := Dp.reads I _ v (.ref a) (Rp.dp _ _ ok.1 r) rx
  have dep := ok.2.2.2.1
  exact str_of_reads rd ok.2.1 (fun z => by rw [ok.2.2.1] at z; cases z) hg (by omega) (fun _ _ e => e) (fun h2 u tk kp => ⟨.str _, H, I.kept kp, ⟨u, rfl⟩, q⟩) ok.2.2.2.2
theorem cd_strG (hg : X.A.guards = some []) (hr : X.A.units + 65 < cLine) : CallD X (.type "str") bStrG := by
  refine ⟨bStrG_mo, fun pins s σ H xs us Q I rv h => ?_⟩
  obtain ⟨Z, S, ds, rs, r, q⟩ := h
  unfold bStrG at q
  split at q <;> first | exact q.elim | skip
  all_goals
    obtain ⟨v, rfl, r1⟩ := r.one
    obtain ⟨u, rfl, ru⟩ := vals1 rv
  · cases r1
    obtain ⟨t, rfl⟩ := ru
    exact PySem.P.str_of_str ⟨.str _, H, I, ⟨_, rfl⟩, q _ H (.refl rs) (.str _)⟩
  · cases r1
    obtain ⟨t, rfl⟩ := ru
    exact PySem.P.str_of_int q.1 ⟨.str _, H, I.tok _, ⟨_, rfl⟩, q.2 _ H (.refl rs) (.str _)⟩
  · cases r1
    cases ru
    exact PySem.P.str_of_none ⟨.str _, H, I.tok _, ⟨_, rfl⟩, q _ H (.refl rs) (.str _)⟩
  · cases r1 with
    | tup h1 h2 =>
      cases ru
      exact str_seq (v := .ref _) hg hr I rfl (.tup h1 h2) q.1 (q.2 _ H (.refl rs) (.str _))
  · cases r1 with
    | lst h1 h2 h3 h4 =>
      cases ru
      exact str_seq (v := .ref _) hg hr I rfl (.lst h1 h2 h3 h4) q.1 (q.2 _ H (.refl rs) (.str _))
    | lstK h1 h2 =>
      cases ru
      exact str_seq (v := .ref _) hg hr I rfl (.lstK h1 h2) q.1 (q.2 _ H (.refl rs) (.str _))
end
/-! ### a def that is called where no repr is under way -/
/-- its promise: n values by places -/
def GOk (P : Program) (w : World) (K : PySem.W.Frag) (mg : Str → Option Value) (base : Heap) (k : Nat) (f : Addr) (fd : FuncData) (ps : List Str) (sp : Sp) : Prop :=
  ∀ (A : Around) (outer : List Env) (s : Shared) (H : Hp) (us : List Value) (vs : List V) (Q : VK) (E : XK), A.guards = some [] → Room k A → Env0 P w K mg base A outer s H → BindsTo s fd ⟨us, []⟩ (ps.zip us) → Vals vs us → sp vs H Q E → vs.length = ps.length →
    codeAny (model P w) A (.call (.ref f) ⟨us, []⟩) (CR (L2.CX P w) outer P w H s Q E) s
section
variable {P : Program} {w : World} {K : PySem.W.Frag} {mg : Str → Option Value} {base : Heap} {N ps : List Str} {vw : Vw} {k : Nat}
/-- by its body; its parameters are plain names of its own -/
theorem gok_of {x qual : Str} {params : Arguments} {body : List Stmt} {scope : Scope} {dvs : List V} {kws : List (Str × V)} {f : Addr} {fd : FuncData} {tb : TSd} (F : FunD K x qual params body scope dvs kws f fd) (S : FnScope N ps scope) (sC : Sc N scope vw) (plain : ∀ y ∈ ps, scope.names.lookup y = some .local)
    (h : ∀ X W, JD P w K mg base N scope vw k X W → JB X W body tb) : GOk P w K mg base (k + 1) f fd ps (LSp K ps.length (fnD ps.length N.length tb)) := fun A outer s H us vs Q E hg room env bt rv sp same => by
  obtain ⟨oc, od, dV, kV, doc, pm, an, cdv, ct, osl, rfl, lk, code, _, _⟩ := F.ex
  obtain ⟨Z, ds, S0, dl, rp, rs, _, q⟩ := sp
  -- the body's own context
  let X : Cx := cxOf (L2.CX P w) P w K mg base N qual scope f cdv A outer s H E
  have jb : JB X (fun cls d _ H => E cls d H) body tb := h _ _
    { prog := rfl, ww := rfl, kk := rfl, gg := rfl, bb := rfl, nn := rfl, ss := rfl, sC := sC, nd := S.nd, calm := rfl, room := room.deeper _, tk := takes_of rfl rfl rfl rfl, kd := S.kind, gs := fun _ => hg, po := passes_of rfl, fn := fun _ => rfl, hs := rfl, hf := rfl }
  have old : ∀ b o, base.get? b = some o → s.heap.get? b = some o := fun b o z => (env.bs b o z).1
  have kin : K.In s.heap := env.mod.kin.keeps old
  have lim : s.heap.NoLimit := env.mod.nolimit.keeps old
  refine codeAny_call_function room.depth (kin _ _ lk) rfl S.co S.gen rfl (PySem.W.codeRec_of kin code) (bt _ _ _ _ (wpAny_newFunctionEnv_cells S.kind (fun z hz => .inl (plain _ (List.of_mem_zip hz).1)) fun e ee s1 inside => ?_))
  subst ee
  refine ⟨lim.keeps inside.toInCall.keep, codeAny_func ?_⟩
  have start : RE ⟨K, Z⟩ S0 H (ds.map some ++ List.replicate (N.length - ps.length) none) (L2.start N vs) := by
    have z := RE.start rp (N.length - ps.length)
    rw [← dl, rp.length] at z ⊢
    exact z
  refine wpAny_mono (jb.ps.run [] s1 (L2.start N vs) H { nx := fun _ G => Q .non G, rt := Q } (inv_start S room.hd env same rv inside) (LS.of (K := ⟨K, Z⟩) jb.mo start rs q ⟨fun _ _ z _ G a _ => z _ G a .non, fun d _ z v G a r => z v G a r, fun _ _ z => z.elim, fun _ _ z => z.elim, fun y _ _ z c dx _ G a _ r => z c dx G a r⟩)) (fun fl s2 fin => ?_) fun _ _ z => z
  match fl, fin with
  | .ret u, ⟨v, _, G, J, r, z⟩ => exact ⟨v, G, J.os, J.bare, J.base, J.hok, r, z⟩
  | .next, ⟨_, G, J, z⟩ => exact ⟨.non, G, J.os, J.bare, J.base, J.hok, rfl, z⟩
  | .brk, ⟨_, _, _, z⟩ => exact z.elim
  | .cont, ⟨_, _, _, z⟩ => exact z.elim
/-- the def x, called by np places -/
structure JQ (P : Program) (w : World) (K : PySem.W.Frag) (mg : Str → Option Value) (base : Heap) (x : Str) (np : Nat) (k : Nat) (m : TFd) : Prop where
  ex : ∃ (f : Addr) (fd : FuncData) (ps : List Str), mg x = some (.ref f) ∧ PySem.W.keepIn K (.ref f) = true ∧ ps.length = np ∧ GOk P w K mg base k f fd ps (LSp K np m) ∧ ∀ (s : Shared) (us : List Value), us.length = np → BindsTo s fd ⟨us, []⟩ (ps.zip us)
  mo : MoF m
theorem jg_mk {x qual : Str} {params : Arguments} {body : List Stmt} {scope : Scope} {kws : List (Str × V)} {f : Addr} {fd : FuncData} {tb : TSd} (F : FunD K x qual params body scope [] kws f fd) (S : FnScope N ps scope) (sC : Sc N scope vw) (mgx : mg x = some (.ref f)) (hr : Room k callerA)
    (plain : ∀ y ∈ ps, scope.names.lookup y = some .local)
    (hb : ∀ (kV doc pm : Value) (an : Option Addr) (cdv ct : Value) (us : List Value), us.length = ps.length → bindArgs (PySem.W.fnOf x qual params body scope .none kV doc pm an cdv ct) ⟨us, []⟩ = pure (ps.zip us))
    (h : ∀ X W, JD P w K mg base N scope vw k X W → JB X W body tb) : JQ P w K mg base x ps.length (k + 1) (fnD ps.length N.length tb) := by
  refine ⟨⟨f, fd, ps, mgx, F.kp, rfl, gok_of F S sC plain h, fun s us l => ?_⟩, moFn (moS_of S sC hr h)⟩
  obtain ⟨oc, od, dV, kV, doc, pm, an, cdv, ct, osl, rfl, lk, code, hD, _⟩ := F.ex
  rcases hD with ⟨_, rfl⟩ | ⟨e, _⟩
  · exact .of_eq (hb kV doc pm an cdv ct us l)
  · exact absurd rfl e
end
section
variable {P : Program} {w : World} {K : PySem.W.Frag} {mg : Str → Option Value} {base : Heap} {N : List Str} {sc : Scope} {vw : Vw} {k j : Nat} {X : Cx} {W : WX} {x : Str} {np : Nat} {m : TFd} {p pos : Pos} {e : Expr} {es : List Expr} {u : TAd}
/-- f(e, ..), where no repr is under way -/
theorem je_callG (c : JC P w K mg base N sc vw k X W) (hz : gzN N = true) (F : JQ P w K mg base x np j m) (hj : j ≤ k) (hx : x ∈ vw.gs) (ha : JA X W (e :: es) u) (he : starEach (e :: es) X.env = (false, eval e X.env) :: starEach es X.env := by rfl)
    (hpl : (backTo pos (starEach es X.env)).any (·.1) = false := by rfl) : JE X W (.Call (.Name x p) (e :: es) [] pos) (dCall m np 0 (fun ds _ => ds) u aNil) := by
  have hg := c.gs hz
  obtain ⟨f, fd, ps, hm, kp, ln, ok, bt⟩ := F.ex
  obtain ⟨rfl, rfl, rfl, rfl, rfl⟩ : X.prog = P ∧ X.w = w ∧ X.K = K ∧ X.mg = mg ∧ X.base = base := ⟨c.prog, c.ww, c.kk, c.gg, c.bb⟩
  refine ⟨⟨fun pins s σ H Q I h => ?_⟩, moCall F.mo ha.mo moNilA⟩
  obtain ⟨Z, env, S, re, rs, q⟩ := h
  refine wpAny_Call_Name_kw (ld_glob I (c.gl hx) hm (PySem.W.callWith_K (h₀ := X.base) I.ok.mod.kin kp (thn (ha.pa.run pos pins s σ H _ I (LA.of ha.mo re rs q (R := fun vs H1 => ∃ ds S1, Aft ⟨X.K, Z⟩ S H S1 H1 ∧ RpL ⟨X.K, Z⟩ S1 H1 ds vs ∧ ds.length = np ∧ m ds S1 _ _) (fun ds S1 vs H1 q1 a1 r1 => ⟨ds, S1, a1, r1, q1.1, q1.2.2⟩) fun y S1 c dx H1 q1 a1 r1 => q1 c dx H1 a1 r1)) fun us s1 got => ?_) he hpl) (c.sC.gl x hx).2.2)
  obtain ⟨vs, H1, I1, rv, ds, S1, a1, r1, l1, q1⟩ := got
  have lv : us.length = np := by rw [← rv.length, ← r1.length, l1]
  refine ⟨I1.kIn, wpAny_call (codeAny_mono (ok X.A X.stack s1 H1 us vs Q (WE W σ) hg (c.room.mono hj) I1.env0 (bt s1 us lv) rv (call_sp F.mo a1 r1 l1 q1) (by rw [rv.length, lv, ln])) fun r s2 back => ?_)⟩
  match r, back with
  | .error er, back => exact passAt c.tk σ pins H1 s1 er s2 I1 back
  | .ok (.ret _), back => exact I1.after back
end
/-! ### the law's own call -/
section
variable {P : Program} {w : World} {K : PySem.W.Frag} {mg mb : Str → Option Value} {s : Shared} {a : Addr} {vs : List Value}
/-- the heap without the script's list, if that is not written: all dicts and the written part stand in it -/
theorem hid_get {H : Hp} (la : s.heap.get? a = some { cls := .type "list", data := .seq vs.toArray }) (off : ∀ b, b ≠ a → H b = none) {b : Addr} {o : Obj} (e : s.heap.get? b = some o) (nl : H a = none ∨ ∀ its n, o.data ≠ .seq its n) : (hidT s.heap H).get? b = some o := by
  refine hidT_get e ?_
  rcases Classical.em (b = a) with rfl | z
  · rcases nl with nl | nl
    · exact nl
    · rw [la] at e
      exact absurd rfl (Option.some.inj e ▸ nl vs.toArray _)
  · exact off b z
theorem hid_ns {H : Hp} (la : s.heap.get? a = some { cls := .type "list", data := .seq vs.toArray }) (off : ∀ b, b ≠ a → H b = none) {b : Addr} {m : Str → Option Value} (n : s.heap.Ns b m) : (hidT s.heap H).Ns b m := by
  obtain ⟨o, es, ep, h1, h2, h3⟩ := n
  exact ⟨o, es, ep, hid_get la off h1 (.inr fun its n z => by rw [h2] at z; cases z), h2, h3⟩
theorem script_call {k : Nat} {fa : Addr} {fd : FuncData} {x : Str} {ns : List Int} (kin : K.In s.heap) (gl : s.heap.Ns mainGlobals mg) (bl : s.heap.Ns builtinsNs mb) (bo : ∀ x : Str, x ≠ "__name__" → mb x = bootBuiltins x) (lim : s.heap.NoLimit) (still : s.gens = #[])
    (la : s.heap.get? a = some { cls := .type "list", data := .seq vs.toArray }) (isI : IntsAre vs ns) (few : ns.length ≤ sizeLine) (room : Room k callerA)
    (F : ∀ base : Heap, K.In base → base.Ns mainGlobals mg → GOk P w K mg base k fa fd [x] (spLaw K ns.length)) (bd : ∀ (s : Shared) (u : Value), BindsTo s fd ⟨[u], []⟩ [(x, u)]) :
    codeAny (model P w) callerA (.call (.ref fa) ⟨[.ref a], []⟩) (fun r s2 => r = .ok (.ret (.bool true)) ∧ OldK s.heap s2.heap ∧ s2.os = s.os ∧ AllBare s2.gens) s := by
  have rv := vals_ints isI
  have size : vs.toArray.size ≤ sizeLine := by rw [List.size_toArray, isI.length]; exact few
  -- what is tracked of the script: nothing, if it is written, else all of it
  obtain ⟨H, off, seq, ok, only, frz⟩ : ∃ H : Hp, (∀ b, b ≠ a → H b = none) ∧ SqL K H a (ns.map V.int) ∧ HOk P w H s.heap ∧ Only H ∧ (H a = none ∨ K.lookup a = none) := by
    cases hk : K.lookup a with
    | some o =>
      obtain rfl : o = { cls := .type "list", data := .seq vs.toArray } := Option.some.inj ((kin _ _ hk).symm.trans la)
      exact ⟨fun _ => none, fun _ _ => rfl, .inr ⟨_, vs.toArray, _, hk, rfl, rfl, rfl, size, rv⟩, fun _ _ z => (nomatch z), fun _ => .inl rfl, .inl rfl⟩
    | none =>
      let u : HO := .frz { cls := .type "list", data := .seq vs.toArray } (.lst (ns.map V.int))
      have at_ : upd (fun _ => none) a u a = some u := upd_same
      refine ⟨upd (fun _ => none) a u, fun b z => upd_ne z, .inl (.inr ⟨_, at_⟩), fun b o z => ?_, fun b => ?_, .inr rfl⟩
      · rcases Classical.em (b = a) with rfl | n
        · rw [upd_same] at z
          cases z
          exact ⟨la, by rw [List.length_map]; exact few, vs, _, rv, la⟩
        · rw [upd_ne n] at z
          cases z
      · rcases Classical.em (b = a) with rfl | n
        · exact .inr ⟨_, _, at_⟩
        · exact .inl (upd_ne n)
  have kb : K.In (hidT s.heap H) := fun b o z => by
    refine hidT_get (kin b o z) ?_
    rcases Classical.em (b = a) with rfl | n
    · rcases frz with f | f
      · exact f
      · rw [f] at z
        cases z
    · exact off b n
  have gb := hid_ns la off gl
  obtain ⟨ml, l1, l2⟩ := lim
  have env : Env0 P w K mg (hidT s.heap H) callerA [] s H :=
    { frames := rfl, mod := ⟨kb, gb, ⟨mb, hid_ns la off bl, bo⟩, ⟨ml, hid_ns la off l1, l2⟩⟩, bs := fun b o z => of_hidT z, bsz := Nat.le_of_eq (hidT_size _ _), funs := trivial, frf := fun b hb => (nomatch hb), hok := ok, bare := .of_eq still }
  refine codeAny_mono (F _ kb gb callerA [] s H [.ref a] [.ref a] (fun v _ => v = .bl true) (fun _ _ _ => False) rfl room env (bd s (.ref a)) (.cons rfl .nil) ⟨a, ns, rfl, seq, Nat.le_refl _, only, fun _ => rfl⟩ rfl) fun r s2 back => ?_
  match r, back with
  | .error er, ⟨_, _, _, _, _, _, _, _, _, _, _, _, no⟩ => exact no.elim
  | .ok (.ret u), ⟨v, G, os2, bare2, un, ok2, ru, q⟩ =>
    have q : v = .bl true := q
    subst q
    obtain rfl : u = Value.bool true := ru
    refine ⟨rfl, OldK.of_keep fun b o z => ?_, os2, bare2⟩
    rcases only b with n | ⟨o2, xs, f⟩
    · exact un.keep b o z n (fun hb => (nomatch hb)) (fun hb => (nomatch hb))
    · have f1 := (ok b _ f).1
      have f2 := (ok2 b _ (un.frzs b _ _ f)).1
      rw [z] at f1
      exact f2.trans f1.symm
end
/-- the end -/
theorem walk_ofG {l : PySem.W.OpenLaw} {n k : Nat} {q : Program} {loose : List Str} {XP : (Str → Option Value) → Heap → Prop} {YP : World → Heap → Prop} {d : DefRec} {x : Str} (hn : l.most = some n) (hn2 : n ≤ sizeLine) (hdf : d.params.defaults = []) (hr : Room k callerA)
    (F : ∀ (w : World) (mg : Str → Option Value) (fa : Addr) (h : Heap), YP w h → h.Ns mainGlobals mg → mg d.name = some (.ref fa) → ∃ (K : PySem.W.Frag) (fd : FuncData), K.In h ∧ (∀ (s : Shared) (u : Value), BindsTo s fd ⟨[u], []⟩ [(x, u)]) ∧ ∀ base : Heap, K.In base → base.Ns mainGlobals mg → GOk l.prog w K mg base k fa fd [x] (spLaw K n)) : PySem.W.WalkO q loose XP YP l.row.toRowW d [] (fun f vs => PySem.call f vs) := by
  refine Att.attach_call hn hdf fun w s0 s1 mg mb fa o pm cd doc a vs ns G Y ho hd hcd hmg hobj hints hlen hg => ?_
  obtain ⟨K, fd, KX, hb, hF⟩ := F w mg fa _ Y G.T.g hmg
  refine script_call KX G.T.g G.T.b G.T.builtins G.T.nolimit hg hobj hints (Nat.le_trans hlen hn2) hr (fun base h1 h2 A outer s H us vs Q E g1 g2 g3 g4 g5 g6 g7 => hF base h1 h2 A outer s H us vs Q E g1 g2 g3 g4 g5 ?_ g7) hb
  obtain ⟨a, ms, e1, e2, e3, e4⟩ := g6
  exact ⟨a, ms, e1, e2, Nat.le_trans e3 hlen, e4⟩
/-- the law's promise from its walk -/
theorem gok_law {P : Program} {w : World} {K : PySem.W.Frag} {mg : Str → Option Value} {base : Heap} {p : Str} {f : Addr} {fd : FuncData} {k n : Nat} {m : TFd} (h : GOk P w K mg base k f fd [p] (LSp K 1 m)) (mo : MoF m) (q : ∀ ns : List Int, ns.length ≤ n → m [.lst (ns.map D.int)] (fun _ => none) (fun d _ => d = .bl true) fun _ _ => False) :
    GOk P w K mg base k f fd [p] (spLaw K n) := fun A outer s H us vs Q E g1 g2 g3 g4 g5 g6 g7 => h A outer s H us vs Q E g1 g2 g3 g4 g5 (law_sp mo q vs H Q E g6) g7
end Bl

namespace K11
open PySem PySem.Spec PyProof.Rows L2 Bl
def top (i : Nat) : Stmt := PySem.Challenge.pw_bendlands_k11_spokes_refused.main.body.getD i (.Pass ⟨0, 0, 0, 0⟩)
abbrev nm_l_cell_at : List Str := ["_law_script", "_law_k"]
abbrev vw_l_cell_at : Vw := ⟨[0, 1], [0, 1], [], ["len"]⟩
theorem fs_l_cell_at : FnScope nm_l_cell_at ["_law_script", "_law_k"] (defScope (top 44)) := ⟨rfl, rfl, rfl, by decide +kernel, rfl, by decide +kernel, by decide +kernel⟩
theorem sc_l_cell_at : Sc nm_l_cell_at (defScope (top 44)) vw_l_cell_at := scOf (by decide +kernel)
def d_l_cell_at : He.DefD := ⟨("_law_cell_at", none), "_law_cell_at", "_law_cell_at", defArgs (top 44), defBody (top 44), defScope (top 44), [], []⟩
abbrev nm_l_bag : List Str := ["_law_script", "_law_at", "_law_primes", "_law_cell", "_law_mix", "_law_k", "_law_one"]
abbrev vw_l_bag : Vw := ⟨[0, 1, 2, 3, 4, 5, 6], [0, 1, 2, 3, 4, 5, 6], [], ["_law_cell_at", "range"]⟩
theorem fs_l_bag : FnScope nm_l_bag ["_law_script", "_law_at"] (defScope (top 45)) := ⟨rfl, rfl, rfl, by decide +kernel, rfl, by decide +kernel, by decide +kernel⟩
theorem sc_l_bag : Sc nm_l_bag (defScope (top 45)) vw_l_bag := scOf (by decide +kernel)
def d_l_bag : He.DefD := ⟨("_law_bag", none), "_law_bag", "_law_bag", defArgs (top 45), defBody (top 45), defScope (top 45), [], []⟩
abbrev nm_l_take : List Str := ["_law_bag_here", "_law_many", "_law_digit"]
abbrev vw_l_take : Vw := ⟨[0, 1, 2], [0, 1, 2], [], []⟩
theorem fs_l_take : FnScope nm_l_take ["_law_bag_here", "_law_many"] (defScope (top 46)) := ⟨rfl, rfl, rfl, by decide +kernel, rfl, by decide +kernel, by decide +kernel⟩
theorem sc_l_take : Sc nm_l_take (defScope (top 46)) vw_l_take := scOf (by decide +kernel)
def d_l_take : He.DefD := ⟨("_law_take", none), "_law_take", "_law_take", defArgs (top 46), defBody (top 46), defScope (top 46), [], []⟩
abbrev nm_l_point : List Str := ["_law_bag_here", "_law_most"]
abbrev vw_l_point : Vw := ⟨[0, 1], [0, 1], [], ["_law_take"]⟩
theorem fs_l_point : FnScope nm_l_point ["_law_bag_here", "_law_most"] (defScope (top 47)) := ⟨rfl, rfl, rfl, by decide +kernel, rfl, by decide +kernel, by decide +kernel⟩
theorem sc_l_point : Sc nm_l_point (defScope (top 47)) vw_l_point := scOf (by decide +kernel)
def d_l_point : He.DefD := ⟨("_law_point", none), "_law_point", "_law_point", defArgs (top 47), defBody (top 47), defScope (top 47), [], []⟩
abbrev nm_l_turned : List Str := ["_law_point_here", "_law_often", "_law_x", "_law_y", "_law_turn"]
abbrev vw_l_turned : Vw := ⟨[0, 1, 2, 3, 4], [0, 1, 2, 3, 4], [], ["range"]⟩
theorem fs_l_turned : FnScope nm_l_turned ["_law_point_here", "_law_often"] (defScope (top 48)) := ⟨rfl, rfl, rfl, by decide +kernel, rfl, by decide +kernel, by decide +kernel⟩
theorem sc_l_turned : Sc nm_l_turned (defScope (top 48)) vw_l_turned := scOf (by decide +kernel)
def d_l_turned : He.DefD := ⟨("_law_turned", none), "_law_turned", "_law_turned", defArgs (top 48), defBody (top 48), defScope (top 48), [], []⟩
abbrev nm_l_added : List Str := ["_law_one", "_law_other"]
abbrev vw_l_added : Vw := ⟨[0, 1], [0, 1], [], []⟩
theorem fs_l_added : FnScope nm_l_added ["_law_one", "_law_other"] (defScope (top 49)) := ⟨rfl, rfl, rfl, by decide +kernel, rfl, by decide +kernel, by decide +kernel⟩
theorem sc_l_added : Sc nm_l_added (defScope (top 49)) vw_l_added := scOf (by decide +kernel)
def d_l_added : He.DefD := ⟨("_law_added", none), "_law_added", "_law_added", defArgs (top 49), defBody (top 49), defScope (top 49), [], []⟩
abbrev nm_l_thing : List Str := ["_law_bag_here", "_law_most", "_law_kind", "_law_base", "_law_x", "_law_y", "_law_often", "_law_size", "_law_step", "_law_p", "_law_q", "_law_way"]
abbrev vw_l_thing : Vw := ⟨[0, 1, 2, 3, 4, 5, 6, 7, 8, 9, 10, 11], [0, 1, 2, 3, 4, 5, 6, 7, 8, 9, 10, 11], [], ["_law_take", "_law_point", "_law_turned", "_law_added"]⟩
theorem fs_l_thing : FnScope nm_l_thing ["_law_bag_here", "_law_most"] (defScope (top 50)) := ⟨rfl, rfl, rfl, by decide +kernel, rfl, by decide +kernel, by decide +kernel⟩
theorem sc_l_thing : Sc nm_l_thing (defScope (top 50)) vw_l_thing := scOf (by decide +kernel)
def d_l_thing : He.DefD := ⟨("_law_thing", none), "_law_thing", "_law_thing", defArgs (top 50), defBody (top 50), defScope (top 50), [], []⟩
abbrev nm_l_low : List Str := ["_law_one", "_law_other", "_law_least", "_law_by"]
abbrev vw_l_low : Vw := ⟨[0, 1, 2, 3], [0, 1, 2, 3], [], ["abs"]⟩
theorem fs_l_low : FnScope nm_l_low ["_law_one", "_law_other"] (defScope (top 51)) := ⟨rfl, rfl, rfl, by decide +kernel, rfl, by decide +kernel, by decide +kernel⟩
theorem sc_l_low : Sc nm_l_low (defScope (top 51)) vw_l_low := scOf (by decide +kernel)
def d_l_low : He.DefD := ⟨("_law_low", none), "_law_low", "_law_low", defArgs (top 51), defBody (top 51), defScope (top 51), [], []⟩
abbrev nm_l_plus : List Str := ["_law_one", "_law_other"]
abbrev vw_l_plus : Vw := ⟨[0, 1], [0, 1], [], ["_law_low"]⟩
theorem fs_l_plus : FnScope nm_l_plus ["_law_one", "_law_other"] (defScope (top 52)) := ⟨rfl, rfl, rfl, by decide +kernel, rfl, by decide +kernel, by decide +kernel⟩
theorem sc_l_plus : Sc nm_l_plus (defScope (top 52)) vw_l_plus := scOf (by decide +kernel)
def d_l_plus : He.DefD := ⟨("_law_plus", none), "_law_plus", "_law_plus", defArgs (top 52), defBody (top 52), defScope (top 52), [], []⟩
abbrev nm_l_root_of : List Str := ["_law_number", "_law_low_here", "_law_high", "_law_mid"]
abbrev vw_l_root_of : Vw := ⟨[0, 1, 2, 3], [0, 1, 2, 3], [], []⟩
theorem fs_l_root_of : FnScope nm_l_root_of ["_law_number"] (defScope (top 55)) := ⟨rfl, rfl, rfl, by decide +kernel, rfl, by decide +kernel, by decide +kernel⟩
theorem sc_l_root_of : Sc nm_l_root_of (defScope (top 55)) vw_l_root_of := scOf (by decide +kernel)
def d_l_root_of : He.DefD := ⟨("_law_root_of", none), "_law_root_of", "_law_root_of", defArgs (top 55), defBody (top 55), defScope (top 55), [], []⟩
abbrev nm_l_lowest : List Str := ["_law_x", "_law_y", "_law_one", "_law_other"]
abbrev vw_l_lowest : Vw := ⟨[0, 1, 2, 3], [0, 1, 2, 3], [], ["abs"]⟩
theorem fs_l_lowest : FnScope nm_l_lowest ["_law_x", "_law_y"] (defScope (top 56)) := ⟨rfl, rfl, rfl, by decide +kernel, rfl, by decide +kernel, by decide +kernel⟩
theorem sc_l_lowest : Sc nm_l_lowest (defScope (top 56)) vw_l_lowest := scOf (by decide +kernel)
def d_l_lowest : He.DefD := ⟨("_law_lowest", none), "_law_lowest", "_law_lowest", defArgs (top 56), defBody (top 56), defScope (top 56), [], []⟩
abbrev nm_l_right : List Str := ["_law_p", "_law_q"]
abbrev vw_l_right : Vw := ⟨[0, 1], [0, 1], [], ["_law_lowest"]⟩
theorem fs_l_right : FnScope nm_l_right ["_law_p", "_law_q"] (defScope (top 57)) := ⟨rfl, rfl, rfl, by decide +kernel, rfl, by decide +kernel, by decide +kernel⟩
theorem sc_l_right : Sc nm_l_right (defScope (top 57)) vw_l_right := scOf (by decide +kernel)
def d_l_right : He.DefD := ⟨("_law_right", none), "_law_right", "_law_right", defArgs (top 57), defBody (top 57), defScope (top 57), [], []⟩
abbrev nm_l_faces : List Str := ["_law_thing_here", "_law_p", "_law_q", "_law_back", "_law_out", "_law_x", "_law_y", "_law_first", "_law_last", "_law_radius", "_law_arc"]
abbrev vw_l_faces : Vw := ⟨[0, 1, 2, 3, 4, 5, 6, 7, 8, 9, 10], [0, 1, 2, 3, 4, 5, 6, 7, 8, 9, 10], [], ["_law_right", "_law_lowest", "_law_root_of"]⟩
theorem fs_l_faces : FnScope nm_l_faces ["_law_thing_here"] (defScope (top 58)) := ⟨rfl, rfl, rfl, by decide +kernel, rfl, by decide +kernel, by decide +kernel⟩
theorem sc_l_faces : Sc nm_l_faces (defScope (top 58)) vw_l_faces := scOf (by decide +kernel)
def d_l_faces : He.DefD := ⟨("_law_faces", none), "_law_faces", "_law_faces", defArgs (top 58), defBody (top 58), defScope (top 58), [], []⟩
abbrev nm_l_length : List Str := ["_law_face", "_law_x", "_law_y", "_law_u", "_law_v", "_law_many", "_law_size"]
abbrev vw_l_length : Vw := ⟨[0, 1, 2, 3, 4, 5, 6], [0, 1, 2, 3, 4, 5, 6], [], ["int", "_law_root_of", "_law_plus", "_law_low"]⟩
theorem fs_l_length : FnScope nm_l_length ["_law_face"] (defScope (top 59)) := ⟨rfl, rfl, rfl, by decide +kernel, rfl, by decide +kernel, by decide +kernel⟩
theorem sc_l_length : Sc nm_l_length (defScope (top 59)) vw_l_length := scOf (by decide +kernel)
def d_l_length : He.DefD := ⟨("_law_length", none), "_law_length", "_law_length", defArgs (top 59), defBody (top 59), defScope (top 59), [], []⟩
abbrev nm_l_around : List Str := ["_law_thing_here", "_law_found", "_law_face"]
abbrev vw_l_around : Vw := ⟨[0, 1, 2], [0, 1, 2], [], ["_law_faces", "_law_plus", "_law_length"]⟩
theorem fs_l_around : FnScope nm_l_around ["_law_thing_here"] (defScope (top 62)) := ⟨rfl, rfl, rfl, by decide +kernel, rfl, by decide +kernel, by decide +kernel⟩
theorem sc_l_around : Sc nm_l_around (defScope (top 62)) vw_l_around := scOf (by decide +kernel)
def d_l_around : He.DefD := ⟨("_law_around", none), "_law_around", "_law_around", defArgs (top 62), defBody (top 62), defScope (top 62), [], []⟩
abbrev nm_common : List Str := ["one", "other"]
abbrev vw_common : Vw := ⟨[0, 1], [0, 1], [], ["abs"]⟩
theorem fs_common : FnScope nm_common ["one", "other"] (defScope (top 11)) := ⟨rfl, rfl, rfl, by decide +kernel, rfl, by decide +kernel, by decide +kernel⟩
theorem sc_common : Sc nm_common (defScope (top 11)) vw_common := scOf (by decide +kernel)
def d_common : He.DefD := ⟨("common", none), "common", "common", defArgs (top 11), defBody (top 11), defScope (top 11), [], []⟩
abbrev nm_frac : List Str := ["top", "bottom", "sign", "e", "by"]
abbrev vw_frac : Vw := ⟨[0, 1, 2, 3, 4], [0, 1, 2, 3, 4], [], ["abs", "ZeroDivisionError", "NoFraction", "common"]⟩
theorem fs_frac : FnScope nm_frac ["top", "bottom"] (defScope (top 12)) := ⟨rfl, rfl, rfl, by decide +kernel, rfl, by decide +kernel, by decide +kernel⟩
theorem sc_frac : Sc nm_frac (defScope (top 12)) vw_frac := scOf (by decide +kernel)
def d_frac : He.DefD := ⟨("frac", none), "frac", "frac", defArgs (top 12), defBody (top 12), defScope (top 12), [.int 1], []⟩
abbrev nm_minus : List Str := ["one", "other"]
abbrev vw_minus : Vw := ⟨[0, 1], [0, 1], [], ["frac"]⟩
theorem fs_minus : FnScope nm_minus ["one", "other"] (defScope (top 14)) := ⟨rfl, rfl, rfl, by decide +kernel, rfl, by decide +kernel, by decide +kernel⟩
theorem sc_minus : Sc nm_minus (defScope (top 14)) vw_minus := scOf (by decide +kernel)
def d_minus : He.DefD := ⟨("minus", none), "minus", "minus", defArgs (top 14), defBody (top 14), defScope (top 14), [], []⟩
abbrev nm_is_less : List Str := ["one", "other"]
abbrev vw_is_less : Vw := ⟨[0, 1], [0, 1], [], []⟩
theorem fs_is_less : FnScope nm_is_less ["one", "other"] (defScope (top 17)) := ⟨rfl, rfl, rfl, by decide +kernel, rfl, by decide +kernel, by decide +kernel⟩
theorem sc_is_less : Sc nm_is_less (defScope (top 17)) vw_is_less := scOf (by decide +kernel)
def d_is_less : He.DefD := ⟨("is_less", none), "is_less", "is_less", defArgs (top 17), defBody (top 17), defScope (top 17), [], []⟩
abbrev nm_whole_root : List Str := ["number", "found"]
abbrev vw_whole_root : Vw := ⟨[0, 1], [0, 1], [], []⟩
theorem fs_whole_root : FnScope nm_whole_root ["number"] (defScope (top 18)) := ⟨rfl, rfl, rfl, by decide +kernel, rfl, by decide +kernel, by decide +kernel⟩
theorem sc_whole_root : Sc nm_whole_root (defScope (top 18)) vw_whole_root := scOf (by decide +kernel)
def d_whole_root : He.DefD := ⟨("whole_root", none), "whole_root", "whole_root", defArgs (top 18), defBody (top 18), defScope (top 18), [], []⟩
abbrev nm_far_square : List Str := ["one", "other"]
abbrev vw_far_square : Vw := ⟨[0, 1], [0, 1], [], []⟩
theorem fs_far_square : FnScope nm_far_square ["one", "other"] (defScope (top 25)) := ⟨rfl, rfl, rfl, by decide +kernel, rfl, by decide +kernel, by decide +kernel⟩
theorem sc_far_square : Sc nm_far_square (defScope (top 25)) vw_far_square := scOf (by decide +kernel)
def d_far_square : He.DefD := ⟨("far_square", none), "far_square", "far_square", defArgs (top 25), defBody (top 25), defScope (top 25), [], []⟩
abbrev nm_step_from : List Str := ["one", "other"]
abbrev vw_step_from : Vw := ⟨[0, 1], [0, 1], [], []⟩
theorem fs_step_from : FnScope nm_step_from ["one", "other"] (defScope (top 28)) := ⟨rfl, rfl, rfl, by decide +kernel, rfl, by decide +kernel, by decide +kernel⟩
theorem sc_step_from : Sc nm_step_from (defScope (top 28)) vw_step_from := scOf (by decide +kernel)
def d_step_from : He.DefD := ⟨("step_from", none), "step_from", "step_from", defArgs (top 28), defBody (top 28), defScope (top 28), [], []⟩
abbrev nm_lowest : List Str := ["direction", "by"]
abbrev vw_lowest : Vw := ⟨[0, 1], [0, 1], [], ["common"]⟩
theorem fs_lowest : FnScope nm_lowest ["direction"] (defScope (top 29)) := ⟨rfl, rfl, rfl, by decide +kernel, rfl, by decide +kernel, by decide +kernel⟩
theorem sc_lowest : Sc nm_lowest (defScope (top 29)) vw_lowest := scOf (by decide +kernel)
def d_lowest : He.DefD := ⟨("lowest", none), "lowest", "lowest", defArgs (top 29), defBody (top 29), defScope (top 29), [], []⟩
abbrev nm_outward : List Str := ["a", "b", "x", "y"]
abbrev vw_outward : Vw := ⟨[0, 1, 2, 3], [0, 1, 2, 3], [], ["step_from", "lowest"]⟩
theorem fs_outward : FnScope nm_outward ["a", "b"] (defScope (top 30)) := ⟨rfl, rfl, rfl, by decide +kernel, rfl, by decide +kernel, by decide +kernel⟩
theorem sc_outward : Sc nm_outward (defScope (top 30)) vw_outward := scOf (by decide +kernel)
def d_outward : He.DefD := ⟨("outward", none), "outward", "outward", defArgs (top 30), defBody (top 30), defScope (top 30), [], []⟩
abbrev nm_faces : List Str := ["thing", "word", "points", "centres", "p", "q", "out", "near", "centre", "first", "last", "arc"]
abbrev vw_faces : Vw := ⟨[0, 1, 2, 3, 4, 5, 6, 7, 8, 9, 10, 11], [0, 1, 2, 3, 4, 5, 6, 7, 8, 9, 10, 11], [], ["outward", "lowest", "step_from", "whole_root", "far_square"]⟩
theorem fs_faces : FnScope nm_faces ["thing"] (defScope (top 31)) := ⟨rfl, rfl, rfl, by decide +kernel, rfl, by decide +kernel, by decide +kernel⟩
theorem sc_faces : Sc nm_faces (defScope (top 31)) vw_faces := scOf (by decide +kernel)
def d_faces : He.DefD := ⟨("faces", none), "faces", "faces", defArgs (top 31), defBody (top 31), defScope (top 31), [], []⟩
abbrev nm_plus : List Str := ["one", "other"]
abbrev vw_plus : Vw := ⟨[0, 1], [0, 1], [], ["frac"]⟩
theorem fs_plus : FnScope nm_plus ["one", "other"] (defScope (top 13)) := ⟨rfl, rfl, rfl, by decide +kernel, rfl, by decide +kernel, by decide +kernel⟩
theorem sc_plus : Sc nm_plus (defScope (top 13)) vw_plus := scOf (by decide +kernel)
def d_plus : He.DefD := ⟨("plus", none), "plus", "plus", defArgs (top 13), defBody (top 13), defScope (top 13), [], []⟩
abbrev nm_cross_of : List Str := ["one", "other"]
abbrev vw_cross_of : Vw := ⟨[0, 1], [0, 1], [], []⟩
theorem fs_cross_of : FnScope nm_cross_of ["one", "other"] (defScope (top 26)) := ⟨rfl, rfl, rfl, by decide +kernel, rfl, by decide +kernel, by decide +kernel⟩
theorem sc_cross_of : Sc nm_cross_of (defScope (top 26)) vw_cross_of := scOf (by decide +kernel)
def d_cross_of : He.DefD := ⟨("cross_of", none), "cross_of", "cross_of", defArgs (top 26), defBody (top 26), defScope (top 26), [], []⟩
abbrev nm_dot_of : List Str := ["one", "other"]
abbrev vw_dot_of : Vw := ⟨[0, 1], [0, 1], [], []⟩
theorem fs_dot_of : FnScope nm_dot_of ["one", "other"] (defScope (top 27)) := ⟨rfl, rfl, rfl, by decide +kernel, rfl, by decide +kernel, by decide +kernel⟩
theorem sc_dot_of : Sc nm_dot_of (defScope (top 27)) vw_dot_of := scOf (by decide +kernel)
def d_dot_of : He.DefD := ⟨("dot_of", none), "dot_of", "dot_of", defArgs (top 27), defBody (top 27), defScope (top 27), [], []⟩
abbrev nm_left_of : List Str := ["direction"]
abbrev vw_left_of : Vw := ⟨[0], [0], [], []⟩
theorem fs_left_of : FnScope nm_left_of ["direction"] (defScope (top 33)) := ⟨rfl, rfl, rfl, by decide +kernel, rfl, by decide +kernel, by decide +kernel⟩
theorem sc_left_of : Sc nm_left_of (defScope (top 33)) vw_left_of := scOf (by decide +kernel)
def d_left_of : He.DefD := ⟨("left_of", none), "left_of", "left_of", defArgs (top 33), defBody (top 33), defScope (top 33), [], []⟩
abbrev nm_quarters : List Str := ["first", "last", "many", "here"]
abbrev vw_quarters : Vw := ⟨[0, 1, 2, 3], [0, 1, 2, 3], [], ["cross_of", "dot_of", "left_of"]⟩
theorem fs_quarters : FnScope nm_quarters ["first", "last"] (defScope (top 34)) := ⟨rfl, rfl, rfl, by decide +kernel, rfl, by decide +kernel, by decide +kernel⟩
theorem sc_quarters : Sc nm_quarters (defScope (top 34)) vw_quarters := scOf (by decide +kernel)
def d_quarters : He.DefD := ⟨("quarters", none), "quarters", "quarters", defArgs (top 34), defBody (top 34), defScope (top 34), [], []⟩
abbrev nm_length_of : List Str := ["direction"]
abbrev vw_length_of : Vw := ⟨[0], [0], [], ["whole_root", "dot_of"]⟩
theorem fs_length_of : FnScope nm_length_of ["direction"] (defScope (top 32)) := ⟨rfl, rfl, rfl, by decide +kernel, rfl, by decide +kernel, by decide +kernel⟩
theorem sc_length_of : Sc nm_length_of (defScope (top 32)) vw_length_of := scOf (by decide +kernel)
def d_length_of : He.DefD := ⟨("length_of", none), "length_of", "length_of", defArgs (top 32), defBody (top 32), defScope (top 32), [], []⟩
abbrev nm_rest_of : List Str := ["here", "there", "size"]
abbrev vw_rest_of : Vw := ⟨[0, 1, 2], [0, 1, 2], [], ["length_of", "frac", "cross_of", "dot_of"]⟩
theorem fs_rest_of : FnScope nm_rest_of ["here", "there"] (defScope (top 35)) := ⟨rfl, rfl, rfl, by decide +kernel, rfl, by decide +kernel, by decide +kernel⟩
theorem sc_rest_of : Sc nm_rest_of (defScope (top 35)) vw_rest_of := scOf (by decide +kernel)
def d_rest_of : He.DefD := ⟨("rest_of", none), "rest_of", "rest_of", defArgs (top 35), defBody (top 35), defScope (top 35), [], []⟩
abbrev nm_face_length : List Str := ["face", "many", "here"]
abbrev vw_face_length : Vw := ⟨[0, 1, 2], [0, 1, 2], [], ["ONE", "quarters", "plus", "rest_of"]⟩
theorem fs_face_length : FnScope nm_face_length ["face"] (defScope (top 36)) := ⟨rfl, rfl, rfl, by decide +kernel, rfl, by decide +kernel, by decide +kernel⟩
theorem sc_face_length : Sc nm_face_length (defScope (top 36)) vw_face_length := scOf (by decide +kernel)
def d_face_length : He.DefD := ⟨("face_length", none), "face_length", "face_length", defArgs (top 36), defBody (top 36), defScope (top 36), [], []⟩
abbrev nm_beginnings : List Str := ["thing", "found", "face"]
abbrev vw_beginnings : Vw := ⟨[0, 1, 2], [0, 1, 2], [], ["ZERO", "faces", "plus", "face_length"]⟩
theorem fs_beginnings : FnScope nm_beginnings ["thing"] (defScope (top 38)) := ⟨rfl, rfl, rfl, by decide +kernel, rfl, by decide +kernel, by decide +kernel⟩
theorem sc_beginnings : Sc nm_beginnings (defScope (top 38)) vw_beginnings := scOf (by decide +kernel)
def d_beginnings : He.DefD := ⟨("beginnings", none), "beginnings", "beginnings", defArgs (top 38), defBody (top 38), defScope (top 38), [], []⟩
abbrev nm_times : List Str := ["one", "other"]
abbrev vw_times : Vw := ⟨[0, 1], [0, 1], [], ["frac"]⟩
theorem fs_times : FnScope nm_times ["one", "other"] (defScope (top 15)) := ⟨rfl, rfl, rfl, by decide +kernel, rfl, by decide +kernel, by decide +kernel⟩
theorem sc_times : Sc nm_times (defScope (top 15)) vw_times := scOf (by decide +kernel)
def d_times : He.DefD := ⟨("times", none), "times", "times", defArgs (top 15), defBody (top 15), defScope (top 15), [], []⟩
abbrev nm_over : List Str := ["one", "other"]
abbrev vw_over : Vw := ⟨[0, 1], [0, 1], [], ["frac"]⟩
theorem fs_over : FnScope nm_over ["one", "other"] (defScope (top 16)) := ⟨rfl, rfl, rfl, by decide +kernel, rfl, by decide +kernel, by decide +kernel⟩
theorem sc_over : Sc nm_over (defScope (top 16)) vw_over := scOf (by decide +kernel)
def d_over : He.DefD := ⟨("over", none), "over", "over", defArgs (top 16), defBody (top 16), defScope (top 16), [], []⟩
abbrev nm_turned : List Str := ["direction", "s", "here", "turn", "t", "size", "square", "along", "beside", "under", "found", "one", "other", "top"]
abbrev vw_turned : Vw := ⟨[0, 1, 2, 3, 4, 5, 6, 7, 8, 9, 10, 11, 12, 13], [0, 1, 2, 3, 4, 5, 6, 7, 8, 9, 10, 11, 12, 13], [], ["range", "left_of", "frac", "length_of", "times", "minus", "ONE", "plus", "zip", "over"]⟩
theorem fs_turned : FnScope nm_turned ["direction", "s"] (defScope (top 39)) := ⟨rfl, rfl, rfl, by decide +kernel, rfl, by decide +kernel, by decide +kernel⟩
theorem sc_turned : Sc nm_turned (defScope (top 39)) vw_turned := scOf (by decide +kernel)
def d_turned : He.DefD := ⟨("turned", none), "turned", "turned", defArgs (top 39), defBody (top 39), defScope (top 39), [], []⟩
abbrev nm_spoke_of : List Str := ["face", "s", "a", "b", "x", "y", "size", "foot", "word", "centre", "radius", "directions", "direction", ".0", "one", "other"]
abbrev vw_spoke_of : Vw := ⟨[0, 1, 2, 3, 4, 5, 6, 7, 8, 9, 10, 11, 12], [0, 2, 3, 4, 5, 6, 7, 8, 9, 11, 12], [1, 10], ["outward", "length_of", "tuple", "zip", "frac", "turned"]⟩
abbrev vb0_spoke_of : Vw := ⟨[1, 13, 14, 15], [13, 14, 15], [1], ["plus", "times"]⟩
abbrev vb1_spoke_of : Vw := ⟨[10, 13, 14, 15], [13, 14, 15], [10], ["plus", "times"]⟩
theorem fs_spoke_of : FnScope nm_spoke_of ["face", "s"] (defScope (top 40)) := ⟨rfl, rfl, rfl, by decide +kernel, rfl, by decide +kernel, by decide +kernel⟩
theorem sc_spoke_of : Sc nm_spoke_of (defScope (top 40)) vw_spoke_of := scOf (by decide +kernel)
def d_spoke_of : He.DefD := ⟨("spoke_of", none), "spoke_of", "spoke_of", defArgs (top 40), defBody (top 40), defScope (top 40), [], []⟩
abbrev nm_is_whole : List Str := ["thing"]
abbrev vw_is_whole : Vw := ⟨[0], [0], [], ["isinstance", "int", "bool"]⟩
theorem fs_is_whole : FnScope nm_is_whole ["thing"] (defScope (top 20)) := ⟨rfl, rfl, rfl, by decide +kernel, rfl, by decide +kernel, by decide +kernel⟩
theorem sc_is_whole : Sc nm_is_whole (defScope (top 20)) vw_is_whole := scOf (by decide +kernel)
def d_is_whole : He.DefD := ⟨("is_whole", none), "is_whole", "is_whole", defArgs (top 20), defBody (top 20), defScope (top 20), [], []⟩
abbrev nm_is_row : List Str := ["thing", "many"]
abbrev vw_is_row : Vw := ⟨[0, 1], [0, 1], [], ["isinstance", "tuple", "len"]⟩
theorem fs_is_row : FnScope nm_is_row ["thing", "many"] (defScope (top 21)) := ⟨rfl, rfl, rfl, by decide +kernel, rfl, by decide +kernel, by decide +kernel⟩
theorem sc_is_row : Sc nm_is_row (defScope (top 21)) vw_is_row := scOf (by decide +kernel)
def d_is_row : He.DefD := ⟨("is_row", none), "is_row", "is_row", defArgs (top 21), defBody (top 21), defScope (top 21), [], []⟩
abbrev nm_are_whole : List Str := ["thing", "many", ".0", "one"]
abbrev vw_are_whole : Vw := ⟨[0, 1], [0, 1], [], ["is_row", "all"]⟩
abbrev vb0_are_whole : Vw := ⟨[2, 3], [2, 3], [], ["is_whole"]⟩
theorem fs_are_whole : FnScope nm_are_whole ["thing", "many"] (defScope (top 22)) := ⟨rfl, rfl, rfl, by decide +kernel, rfl, by decide +kernel, by decide +kernel⟩
theorem sc_are_whole : Sc nm_are_whole (defScope (top 22)) vw_are_whole := scOf (by decide +kernel)
def d_are_whole : He.DefD := ⟨("are_whole", none), "are_whole", "are_whole", defArgs (top 22), defBody (top 22), defScope (top 22), [], []⟩
abbrev nm_is_fraction : List Str := ["thing", "one", "other"]
abbrev vw_is_fraction : Vw := ⟨[0, 1, 2], [0, 1, 2], [], ["are_whole", "abs"]⟩
theorem fs_is_fraction : FnScope nm_is_fraction ["thing"] (defScope (top 23)) := ⟨rfl, rfl, rfl, by decide +kernel, rfl, by decide +kernel, by decide +kernel⟩
theorem sc_is_fraction : Sc nm_is_fraction (defScope (top 23)) vw_is_fraction := scOf (by decide +kernel)
def d_is_fraction : He.DefD := ⟨("is_fraction", none), "is_fraction", "is_fraction", defArgs (top 23), defBody (top 23), defScope (top 23), [], []⟩
abbrev nm_around : List Str := ["thing", "found", "face"]
abbrev vw_around : Vw := ⟨[0, 1, 2], [0, 1, 2], [], ["ZERO", "faces", "plus", "face_length"]⟩
theorem fs_around : FnScope nm_around ["thing"] (defScope (top 37)) := ⟨rfl, rfl, rfl, by decide +kernel, rfl, by decide +kernel, by decide +kernel⟩
theorem sc_around : Sc nm_around (defScope (top 37)) vw_around := scOf (by decide +kernel)
def d_around : He.DefD := ⟨("around", none), "around", "around", defArgs (top 37), defBody (top 37), defScope (top 37), [], []⟩
abbrev nm_look_spoke : List Str := ["thing", "z"]
abbrev vw_look_spoke : Vw := ⟨[0, 1], [0, 1], [], ["is_fraction", "is_less", "around", "NoSpoke"]⟩
theorem fs_look_spoke : FnScope nm_look_spoke ["thing", "z"] (defScope (top 41)) := ⟨rfl, rfl, rfl, by decide +kernel, rfl, by decide +kernel, by decide +kernel⟩
theorem sc_look_spoke : Sc nm_look_spoke (defScope (top 41)) vw_look_spoke := scOf (by decide +kernel)
def d_look_spoke : He.DefD := ⟨("look_spoke", none), "look_spoke", "look_spoke", defArgs (top 41), defBody (top 41), defScope (top 41), [], []⟩
abbrev nm_spoke : List Str := ["thing", "z", "begin", "face"]
abbrev vw_spoke : Vw := ⟨[0, 1, 2, 3], [0, 1, 2, 3], [], ["look_spoke", "zip", "reversed", "beginnings", "faces", "is_less", "spoke_of", "minus", "NoSpoke"]⟩
theorem fs_spoke : FnScope nm_spoke ["thing", "z"] (defScope (top 42)) := ⟨rfl, rfl, rfl, by decide +kernel, rfl, by decide +kernel, by decide +kernel⟩
theorem sc_spoke : Sc nm_spoke (defScope (top 42)) vw_spoke := scOf (by decide +kernel)
def d_spoke : He.DefD := ⟨("spoke", none), "spoke", "spoke", defArgs (top 42), defBody (top 42), defScope (top 42), [], []⟩
abbrev nm_l_refused : List Str := ["_law_thing_here", "_law_odd", "e", "_law_others"]
abbrev vw_l_refused : Vw := ⟨[0, 1, 2, 3], [0, 1, 2, 3], [], ["spoke", "NoSpoke", "isinstance", "Full", "Hidden", "LandError", "NoFraction", "NoNumber", "Undone", "LookupError", "str"]⟩
theorem fs_l_refused : FnScope nm_l_refused ["_law_thing_here", "_law_odd"] (defScope (top 63)) := ⟨rfl, rfl, rfl, by decide +kernel, rfl, by decide +kernel, by decide +kernel⟩
theorem sc_l_refused : Sc nm_l_refused (defScope (top 63)) vw_l_refused := scOf (by decide +kernel)
def d_l_refused : He.DefD := ⟨("_law_refused", none), "_law_refused", "_law_refused", defArgs (top 63), defBody (top 63), defScope (top 63), [], []⟩
abbrev nm_l_direction : List Str := ["_law_first", "_law_s", "_law_x", "_law_y", "_law_turn", "_law_size", "_law_top", "_law_bottom", "_law_ahead", "_law_more", "_law_under"]
abbrev vw_l_direction : Vw := ⟨[0, 1, 2, 3, 4, 5, 6, 7, 8, 9, 10], [0, 1, 2, 3, 4, 5, 6, 7, 8, 9, 10], [], ["range", "_law_root_of", "_law_low"]⟩
theorem fs_l_direction : FnScope nm_l_direction ["_law_first", "_law_s"] (defScope (top 60)) := ⟨rfl, rfl, rfl, by decide +kernel, rfl, by decide +kernel, by decide +kernel⟩
theorem sc_l_direction : Sc nm_l_direction (defScope (top 60)) vw_l_direction := scOf (by decide +kernel)
def d_l_direction : He.DefD := ⟨("_law_direction", none), "_law_direction", "_law_direction", defArgs (top 60), defBody (top 60), defScope (top 60), [], []⟩
abbrev nm_l_joins_right : List Str := ["_law_thing_here", "_law_begin", "_law_rows", "_law_at", "_law_face", "_law_foot", "_law_direction_here", "_law_after", "_law_first"]
abbrev vw_l_joins_right : Vw := ⟨[0, 1, 2, 3, 4, 5, 6, 7, 8], [0, 1, 2, 3, 4, 5, 6, 7, 8], [], ["_law_faces", "enumerate", "_law_plus", "_law_length", "spoke", "len", "_law_right", "_law_direction", "around"]⟩
theorem fs_l_joins_right : FnScope nm_l_joins_right ["_law_thing_here"] (defScope (top 64)) := ⟨rfl, rfl, rfl, by decide +kernel, rfl, by decide +kernel, by decide +kernel⟩
theorem sc_l_joins_right : Sc nm_l_joins_right (defScope (top 64)) vw_l_joins_right := scOf (by decide +kernel)
def d_l_joins_right : He.DefD := ⟨("_law_joins_right", none), "_law_joins_right", "_law_joins_right", defArgs (top 64), defBody (top 64), defScope (top 64), [], []⟩
abbrev nm_law : List Str := ["_law_script", "_law_k", "_law_bag_here", "_law_turn", "_law_thing_here", "_law_whole", "_law_by", "_law_odd", ".0", "_law_one"]
abbrev vw_law : Vw := ⟨[0, 1, 2, 3, 4, 5, 6, 7], [0, 1, 2, 3, 5, 6, 7], [4], ["range", "min", "len", "_law_bag", "_law_thing", "_law_around", "_law_take", "_law_plus", "all", "_law_joins_right"]⟩
abbrev vb0_law : Vw := ⟨[4, 8, 9], [8, 9], [4], ["_law_refused"]⟩
theorem fs_law : FnScope nm_law ["_law_script"] (defScope (top 65)) := ⟨rfl, rfl, rfl, by decide +kernel, rfl, by decide +kernel, by decide +kernel⟩
theorem sc_law : Sc nm_law (defScope (top 65)) vw_law := scOf (by decide +kernel)
def d_law : He.DefD := ⟨("law", none), "law", "law", defArgs (top 65), defBody (top 65), defScope (top 65), [], []⟩
def mt (i j : Nat) : Stmt := (rowsOf (top i)).getD j (.Pass ⟨0, 0, 0, 0⟩)
def d_init_NoSpoke : He.DefD := ⟨("NoSpoke", some "__init__"), "__init__", "NoSpoke.__init__", defArgs (mt 4 0), defBody (mt 4 0), defScope (mt 4 0), [], []⟩
theorem fi_NoSpoke : FnScope ["self", "z"] ["self", "z"] (defScope (mt 4 0)) := ⟨rfl, rfl, rfl, by decide +kernel, rfl, by decide +kernel, by decide +kernel⟩
def fn : List He.DefD := [d_l_cell_at, d_l_bag, d_l_take, d_l_point, d_l_turned, d_l_added, d_l_thing, d_l_low, d_l_plus, d_l_root_of, d_l_lowest, d_l_right, d_l_faces, d_l_length, d_l_around, d_common, d_frac, d_minus, d_is_less, d_whole_root, d_far_square, d_step_from, d_lowest, d_outward, d_faces, d_plus, d_cross_of, d_dot_of, d_left_of, d_quarters, d_length_of, d_rest_of, d_face_length, d_beginnings, d_times, d_over, d_turned, d_spoke_of, d_is_whole, d_is_row, d_are_whole, d_is_fraction, d_around, d_look_spoke, d_spoke, d_l_refused, d_l_direction, d_l_joins_right, d_law, d_init_NoSpoke]
def fa : List He.Fa := [.free "range", .free "min", .free "len", .glo "_law_bag", .glo "_law_thing", .glo "_law_around", .glo "_law_take", .glo "_law_plus", .free "all", .glo "_law_refused", .glo "_law_joins_right", .glo "_law_cell_at", .glo "_law_point", .glo "_law_turned", .glo "_law_added", .glo "_law_low", .free "abs", .glo "_law_faces", .glo "_law_length", .glo "_law_right", .glo "_law_lowest", .glo "_law_root_of", .free "int", .glo "spoke", .free "isinstance", .glo "Undone", .glo "NoNumber", .glo "NoFraction", .glo "LandError", .glo "Hidden", .glo "Full", .free "LookupError", .free "str", .noat "NoSpoke" "z", .glo "NoSpoke", .exm "NoSpoke" "NoSpoke" true, .glo "look_spoke", .free "zip", .free "reversed", .glo "beginnings", .glo "faces", .glo "is_less", .glo "minus", .glo "spoke_of", .glo "frac", .glo "common", .glo "outward", .glo "step_from", .glo "lowest", .glo "far_square", .glo "whole_root", .glo "ZERO", .glo "face_length", .glo "plus", .glo "ONE", .glo "quarters", .glo "rest_of", .glo "cross_of", .glo "dot_of", .glo "left_of", .glo "length_of", .free "tuple", .glo "times", .glo "turned", .glo "over", .glo "is_fraction", .glo "around", .glo "are_whole", .glo "is_row", .glo "is_whole", .free "bool", .free "enumerate", .glo "_law_direction", .glo "law"]
def bxl : List (PySem.W.Frag → Bool) := [fun K => excCB K (He.ga K "NoSpoke"), fun K => kitB K "NoSpoke" ["Full", "Hidden", "LandError", "NoFraction", "NoNumber", "Undone"] false, fun K => kit1B K "NoSpoke" "LookupError" true, fun K => xfB K (He.ga K "NoSpoke"), fun K => oneB K "NoSpoke" "z" [.type "LookupError", .type "Exception", .type "BaseException", .type "object"] "LookupError.__new__", fun K => tupI K "ZERO" [0, 1], fun K => tupI K "ONE" [1, 1]]
def bx : PySem.W.Frag → Bool := fun K => bxl.all fun f => f K
def names0 : List PySem.Str := ["LandError", "NoFraction", "NoNumber", "NoSpoke", "Full", "Hidden", "Undone", "ZERO", "ONE", "common", "frac", "plus", "minus", "times", "over", "is_less", "whole_root", "is_whole", "is_row", "are_whole", "is_fraction", "far_square", "cross_of", "dot_of"]
def names1 : List PySem.Str := ["step_from", "lowest", "outward", "faces", "length_of", "left_of", "quarters", "rest_of", "face_length", "around", "beginnings", "turned", "spoke_of", "look_spoke", "spoke", "_law_cell_at", "_law_bag", "_law_take", "_law_point", "_law_turned", "_law_added", "_law_thing", "_law_low", "_law_plus"]
def names2 : List PySem.Str := ["_law_minus", "_law_times", "_law_root_of", "_law_lowest", "_law_right", "_law_faces", "_law_length", "_law_direction", "_law_spoke", "_law_around", "_law_refused", "_law_joins_right"]
def names : List PySem.Str := names0 ++ names1 ++ names2
abbrev R : PySem.W.OpenRow := PySem.W.OpenLaw.row PySem.Challenge.rw_bendlands_k11_spokes_refused
abbrev hk : PySem.W.Hook := hookX 5 fa fn bx
theorem run (w : World) : HandSHeadRun.RunEq R (PySem.W.view R.prog [65]) hk (obX 5 fa fn bx) 6000 names w := by
  intro os
  kernel_rfl
end K11

namespace Lb
open PySem PySem.Spec PyProof.Rows L2 Bl
def k_ZERO : D := .tup ([0, 1].map D.int)
def t_common : TSd := sSeq (sPar [0, 1] (aCons (dB bAbs (aCons (vr 0) (aNil))) (aCons (dB bAbs (aCons (vr 1) (aNil))) (aNil)))) (sSeq (sWhile (tbl (dTwo (vr 1) (cn (.int 0)) fNe)) (sPar [0, 1] (aCons (vr 1) (aCons (dTwo (vr 0) (vr 1) fMod) (aNil))))) (sRet (vr 0)))
def m_common : TFd := fnD 2 2 t_common
def t_frac : TSd := sSeq (sThru (sAsg (dTwo (vr 1) (dB bAbs (aCons (vr 1) (aNil))) fDiv) (.nm 2)) sNx) (sSeq (sAsg (dTwo (dCall m_common 2 0 (fun ds _ => ds) (aCons (vr 0) (aCons (vr 1) (aNil))) aNil) (vr 2) fMul) (.nm 4)) (sRet (dTup (aCons (dTwo (vr 0) (vr 4) fDiv) (aCons (dTwo (vr 1) (vr 4) fDiv) (aNil))))))
def m_frac : TFd := fnD 2 5 t_frac
def t_plus : TSd := sRet (dCall m_frac 2 0 (fun ds _ => ds ++ []) (aCons (dTwo (dTwo (dTwo (vr 0) (cn (.int 0)) fIx) (dTwo (vr 1) (cn (.int 1)) fIx) fMul) (dTwo (dTwo (vr 1) (cn (.int 0)) fIx) (dTwo (vr 0) (cn (.int 1)) fIx) fMul) fAdd) (aCons (dTwo (dTwo (vr 0) (cn (.int 1)) fIx) (dTwo (vr 1) (cn (.int 1)) fIx) fMul) (aNil))) aNil)
def m_plus : TFd := fnD 2 2 t_plus
theorem e_plus {a0 a1 : D} {S : Sto} {Q : DK} {E : EK} (k : t_plus [some a0, some a1] S ⟨fun _ S1 => Q .non S1, Q, fun _ _ => False, fun _ _ => False, fun x _ S1 => E x S1⟩) : m_plus [a0, a1] S Q E := ⟨rfl, k⟩
def t_whole_root : TSd := sSeq (sIf (tbl (dTwo (vr 0) (cn (.int 0)) fEq)) (sRet (cn (.int 0))) (sNx)) (sSeq (sAsg (dTwo (cn (.int 1)) (dTwo (dTwo (dBits (vr 0)) (cn (.int 1)) fAdd) (cn (.int 2)) fDiv) fShl) (.nm 1)) (sSeq (sWhile (tbl (dTwo (dTwo (vr 1) (vr 1) fMul) (vr 0) fGt)) (sAsg (dTwo (dTwo (vr 1) (dTwo (vr 0) (vr 1) fDiv) fAdd) (cn (.int 2)) fDiv) (.nm 1))) (sRet (vr 1))))
def m_whole_root : TFd := fnD 1 2 t_whole_root
def t_l_cell_at : TSd := sSeq (sIf (tbl (dTwo (vr 1) (dB bLen (aCons (vr 0) (aNil))) fLt)) (sRet (dTwo (vr 0) (vr 1) fIx)) (sNx)) (sRet (cn (.int 0)))
def m_l_cell_at : TFd := fnD 2 2 t_l_cell_at
def t_l_bag : TSd := sSeq (sAsg (dTup (aCons (cn (.int 99991)) (aCons (cn (.int 99971)) (aCons (cn (.int 99961)) (aCons (cn (.int 99929)) (aCons (cn (.int 99923)) (aCons (cn (.int 99907)) (aCons (cn (.int 99901)) (aCons (cn (.int 99881)) (aCons (cn (.int 99877)) (aNil))))))))))) (.nm 2)) (sSeq (sAsg (dCall m_l_cell_at 2 0 (fun ds _ => ds) (aCons (vr 0) (aCons (vr 1) (aNil))) aNil) (.nm 3)) (sSeq (sAsg (dTwo (dTwo (cn (.int 7919)) (vr 1) fMul) (cn (.int 29)) fAdd) (.nm 4)) (sSeq (sFor (iR1 (aCons (cn (.int 9)) (aNil))) (.nm 5) (sSeq (sAsg (dTwo (dTwo (dTwo (dCall m_l_cell_at 2 0 (fun ds _ => ds) (aCons (vr 0) (aCons (dTwo (vr 1) (vr 5) fAdd) (aNil))) aNil) (dTwo (cn (.int 10)) (cn (.int 18)) fPow) fMod) (dTwo (cn (.int 11)) (vr 5) fMul) fAdd) (cn (.int 1)) fAdd) (.nm 6)) (sAsg (dTwo (dTwo (dTwo (vr 4) (cn (.int 48271)) fMul) (dTwo (dTwo (vr 6) (cn (.int 3)) fPow) (dTwo (vr 2) (vr 5) fIx) fMod) fAdd) (cn (.int 2147483629)) fMod) (.nm 4)))) (sSeq (sIf (tbl (dTwo (vr 3) (dTwo (cn (.int 10)) (cn (.int 18)) fPow) fLt)) (sAsg (cn (.int 0)) (.nm 3)) (sNx)) (sRet (dLstR (aCons (vr 3) (aCons (dTwo (vr 4) (cn (.int 1)) fAdd) (aNil)))))))))
def m_l_bag : TFd := fnD 2 7 t_l_bag
def t_l_take : TSd := sSeq (sIf (tbl (dTwo (dTwo (vr 0) (cn (.int 0)) fIx) (cn (.int 0)) fGt)) (sSeq (sAsg (dTwo (dTwo (vr 0) (cn (.int 0)) fIx) (vr 1) fMod) (.nm 2)) (sSeq (sSub (dTwo (dTwo (vr 0) (cn (.int 0)) fIx) (vr 1) fDiv) (vr 0) (cn (.int 0))) (sRet (vr 2)))) (sNx)) (sSeq (sSub (dTwo (dTwo (dTwo (vr 0) (cn (.int 1)) fIx) (cn (.int 48271)) fMul) (cn (.int 2147483647)) fMod) (vr 0) (cn (.int 1))) (sRet (dTwo (dTwo (dTwo (dTwo (dTwo (vr 0) (cn (.int 1)) fIx) (cn (.int 3)) fPow) (cn (.int 2147483629)) fMod) (cn (.int 1000003)) fMod) (vr 1) fMod)))
def m_l_take : TFd := fnD 2 3 t_l_take
def t_l_low : TSd := sSeq (sIf (tbl (dTwo (vr 1) (cn (.int 0)) fLt)) (sPar [0, 1] (aCons (dTwo (cn (.int 0)) (vr 0) fSub) (aCons (dTwo (cn (.int 0)) (vr 1) fSub) (aNil)))) (sNx)) (sSeq (sPar [2, 3] (aCons (dB bAbs (aCons (vr 0) (aNil))) (aCons (vr 1) (aNil)))) (sSeq (sWhile (tbl (dTwo (vr 2) (cn (.int 0)) fGt)) (sPar [2, 3] (aCons (dTwo (vr 3) (vr 2) fMod) (aCons (vr 2) (aNil))))) (sRet (dTup (aCons (dTwo (vr 0) (vr 3) fDiv) (aCons (dTwo (vr 1) (vr 3) fDiv) (aNil)))))))
def m_l_low : TFd := fnD 2 4 t_l_low
def t_l_plus : TSd := sRet (dCall m_l_low 2 0 (fun ds _ => ds) (aCons (dTwo (dTwo (dTwo (vr 0) (cn (.int 0)) fIx) (dTwo (vr 1) (cn (.int 1)) fIx) fMul) (dTwo (dTwo (vr 1) (cn (.int 0)) fIx) (dTwo (vr 0) (cn (.int 1)) fIx) fMul) fAdd) (aCons (dTwo (dTwo (vr 0) (cn (.int 1)) fIx) (dTwo (vr 1) (cn (.int 1)) fIx) fMul) (aNil))) aNil)
def m_l_plus : TFd := fnD 2 2 t_l_plus
theorem e_l_plus {a0 a1 : D} {S : Sto} {Q : DK} {E : EK} (k : t_l_plus [some a0, some a1] S ⟨fun _ S1 => Q .non S1, Q, fun _ _ => False, fun _ _ => False, fun x _ S1 => E x S1⟩) : m_l_plus [a0, a1] S Q E := ⟨rfl, k⟩
def t_l_root_of : TSd := sSeq (sPar [1, 2] (aCons (cn (.int 0)) (aCons (dTwo (vr 0) (cn (.int 1)) fAdd) (aNil)))) (sSeq (sWhile (tbl (dTwo (dTwo (vr 2) (vr 1) fSub) (cn (.int 1)) fGt)) (sSeq (sAsg (dTwo (dTwo (vr 1) (vr 2) fAdd) (cn (.int 2)) fDiv) (.nm 3)) (sIf (tbl (dTwo (dTwo (vr 3) (vr 3) fMul) (vr 0) fLe)) (sAsg (vr 3) (.nm 1)) (sAsg (vr 3) (.nm 2))))) (sRet (vr 1)))
def m_l_root_of : TFd := fnD 1 4 t_l_root_of
def t_times : TSd := sRet (dCall m_frac 2 0 (fun ds _ => ds ++ []) (aCons (dTwo (dTwo (vr 0) (cn (.int 0)) fIx) (dTwo (vr 1) (cn (.int 0)) fIx) fMul) (aCons (dTwo (dTwo (vr 0) (cn (.int 1)) fIx) (dTwo (vr 1) (cn (.int 1)) fIx) fMul) (aNil))) aNil)
def m_times : TFd := fnD 2 2 t_times
theorem e_times {a0 a1 : D} {S : Sto} {Q : DK} {E : EK} (k : t_times [some a0, some a1] S ⟨fun _ S1 => Q .non S1, Q, fun _ _ => False, fun _ _ => False, fun x _ S1 => E x S1⟩) : m_times [a0, a1] S Q E := ⟨rfl, k⟩
end Lb

namespace Lb
open PySem PySem.Spec PyProof.Rows L2 Bl
/-! ### how great -/
def sm (n : Nat) (i : Int) : Prop := i.natAbs < 2 ^ n
theorem sm.mono {m n : Nat} {i : Int} (h : sm m i) (l : m ≤ n) : sm n i := Nat.lt_of_lt_of_le h (Nat.pow_le_pow_right (by decide) l)
theorem sm.mul {m n : Nat} {i j : Int} (a : sm m i) (b : sm n j) : sm (m + n) (i * j) := by
  unfold sm at *
  rw [Int.natAbs_mul, Nat.pow_add]
  exact Nat.mul_lt_mul'' a b
theorem sm.add {n : Nat} {i j : Int} (a : sm n i) (b : sm n j) : sm (n + 1) (i + j) := by
  unfold sm at *
  have h := Int.natAbs_add_le i j
  rw [Nat.pow_succ]
  omega
theorem sm.sub {n : Nat} {i j : Int} (a : sm n i) (b : sm n j) : sm (n + 1) (i - j) := by
  unfold sm at *
  rw [Nat.pow_succ]
  omega
theorem sm.neg {n : Nat} {i : Int} (a : sm n i) : sm n (-i) := by unfold sm at *; omega
theorem sm.of {n : Nat} {i : Int} (h : i.natAbs < 2 ^ n) : sm n i := h
theorem log2_le {n k : Nat} (h : n < 2 ^ k) : n.log2 ≤ k := by
  by_cases h0 : n = 0
  · subst h0; simp
  · exact Nat.le_of_lt ((Nat.log2_lt h0).mpr h)
theorem sm.cmul {m n : Nat} {i j : Int} (a : sm m i) (b : sm n j) (h : m + n < 1000000) : CMul' i j := by
  have h1 := log2_le a
  have h2 := log2_le b
  unfold CMul'
  omega
theorem sm.cdiv {n : Nat} {j : Int} (a : sm n j) (h0 : j ≠ 0) (h : n ≤ 9000) : CDiv' j := ⟨h0, Nat.lt_of_lt_of_le ((Nat.log2_lt (by omega)).mpr a) h⟩
theorem sm.bits {n : Nat} {j : Int} (a : sm n j) : Builtin.Int.intBits j ≤ n + 1 := by
  unfold Builtin.Int.intBits
  split
  · omega
  · have := log2_le a
    omega
/-! ### fractions -/
abbrev fr (r : Rat) : D := .tup [.int r.num, .int r.den]
structure sr (k : Nat) (r : Rat) : Prop where
  n : sm k r.num
  d : sm k r.den
theorem sr.mono {m n : Nat} {r : Rat} (h : sr m r) (l : m ≤ n) : sr n r := ⟨h.n.mono l, h.d.mono l⟩
theorem den_pos (r : Rat) : (0 : Int) < r.den := by have := r.den_pos; omega
theorem den_ne (r : Rat) : (r.den : Int) ≠ 0 := by have := r.den_pos; omega
theorem castne {q : Int} (h : q ≠ 0) : (q : Rat) ≠ 0 := fun z => h (Rat.intCast_eq_zero_iff.mp z)
/-- a fraction's parts, of any two whole numbers that make it -/
theorem low_of {p q : Int} {r : Rat} (hq : q ≠ 0) (h : r * q = p) : ∃ t : Int, t = q.sign * (Int.gcd p q) ∧ t ≠ 0 ∧ p = r.num * t ∧ q = r.den * t := by
  have e : r = Rat.divInt p q := by
    rw [Rat.divInt_eq_div, ← h, Rat.mul_div_cancel (castne hq)]
  have g0 : 0 < Int.gcd p q := Int.gcd_pos_of_ne_zero_right _ hq
  have gp : (Int.gcd p q : Int) ∣ p := Int.gcd_dvd_left ..
  have gq : (Int.gcd p q : Int) ∣ q := Int.gcd_dvd_right ..
  have ss : q.sign * q.sign = 1 := by
    rcases Int.lt_or_gt_of_ne hq with z | z
    · rw [Int.sign_eq_neg_one_of_neg z]; rfl
    · rw [Int.sign_eq_one_of_pos z]; rfl
  have sq : q.sign * q = q.natAbs := by
    rcases Int.lt_or_gt_of_ne hq with z | z
    · rw [Int.sign_eq_neg_one_of_neg z]; omega
    · rw [Int.sign_eq_one_of_pos z]; omega
  refine ⟨_, rfl, ?_, ?_, ?_⟩
  · intro z
    rcases Int.mul_eq_zero.mp z with z | z
    · rw [z] at ss; cases ss
    · omega
  · rw [e, Rat.num_divInt, Int.gcd_comm q p]
    have g1 : (Int.gcd p q : Int) ≠ 0 := by omega
    clear e sq gq
    obtain ⟨p', hp⟩ := gp
    generalize (Int.gcd p q : Int) = g at *
    have e1 : q.sign * p = g * (q.sign * p') := by rw [hp]; grind
    rw [e1, Int.mul_ediv_cancel_left _ g1, hp]
    grind
  · rw [e, Rat.den_divInt, if_neg hq, Int.gcd_comm q p, Int.natCast_ediv, ← sq]
    have g1 : (Int.gcd p q : Int) ≠ 0 := by omega
    clear e sq gp
    obtain ⟨q', hq'⟩ := gq
    generalize (Int.gcd p q : Int) = g at *
    generalize q.sign = s at *
    have e1 : s * q = g * (s * q') := by rw [hq']; grind
    rw [e1, Int.mul_ediv_cancel_left _ g1, hq']
    grind
theorem low_sm {p q : Int} {r : Rat} {n m : Nat} (hq : q ≠ 0) (h : r * q = p) (hp : sm n p) (hs : sm m q) : sm n r.num ∧ sm m r.den := by
  obtain ⟨t, _, t0, e1, e2⟩ := low_of hq h
  unfold sm at *
  have t1 : 1 ≤ t.natAbs := by omega
  constructor
  · rw [e1, Int.natAbs_mul] at hp
    exact Nat.lt_of_le_of_lt (Nat.le_mul_of_pos_right _ t1) hp
  · rw [e2, Int.natAbs_mul] at hs
    exact Nat.lt_of_le_of_lt (Nat.le_mul_of_pos_right _ t1) hs
theorem num_den (r : Rat) : r * (r.den : Int) = (r.num : Int) := by
  have h := Rat.num_divInt_den r
  rw [Rat.divInt_eq_div] at h
  have z := Rat.div_mul_cancel (a := (r.num : Rat)) (b := ((r.den : Int) : Rat)) (castne (den_ne r))
  rw [h] at z
  exact z
theorem sr.add {m n : Nat} {a b : Rat} (ha : sr m a) (hb : sr n b) : sr (m + n + 1) (a + b) := by
  have z := low_sm (p := a.num * b.den + b.num * a.den) (q := a.den * b.den) (r := a + b) (n := m + n + 1) (m := m + n) (Int.mul_ne_zero (den_ne a) (den_ne b)) (by
    have e1 := num_den a
    have e2 := num_den b
    simp only [Rat.intCast_mul, Rat.intCast_add]
    grind) (.add (ha.n.mul hb.d) ((hb.n.mul ha.d).mono (by omega))) (ha.d.mul hb.d)
  exact ⟨z.1, z.2.mono (by omega)⟩
theorem sr.neg {m : Nat} {a : Rat} (ha : sr m a) : sr m (-a) := ⟨by rw [Rat.neg_num]; exact ha.n.neg, by rw [Rat.neg_den]; exact ha.d⟩
theorem sr.mul {m n : Nat} {a b : Rat} (ha : sr m a) (hb : sr n b) : sr (m + n) (a * b) := by
  have z := low_sm (p := a.num * b.num) (q := a.den * b.den) (r := a * b) (n := m + n) (m := m + n) (Int.mul_ne_zero (den_ne a) (den_ne b)) (by
    have e1 := num_den a
    have e2 := num_den b
    simp only [Rat.intCast_mul, Rat.intCast_add]
    grind) (ha.n.mul hb.n) (ha.d.mul hb.d)
  exact ⟨z.1, z.2⟩
theorem sr.int {m : Nat} {i : Int} (h : sm m i) (h0 : 0 < m) : sr m (i : Rat) := ⟨h, by show (1 : Int).natAbs < 2 ^ m; have : 2 ^ 1 ≤ 2 ^ m := Nat.pow_le_pow_right (by decide) h0; omega⟩
theorem sr.zero {m : Nat} : sr (m + 1) 0 := ⟨by show (0 : Int).natAbs < _; exact Nat.pow_pos (by decide), by show (1 : Int).natAbs < 2 ^ (m + 1); have : 0 < 2 ^ m := Nat.pow_pos (by decide); rw [Nat.pow_succ]; omega⟩
/-! ### the greatest whole number whose square is no greater -/
def isq : Nat → Nat
  | 0 => 0
  | n + 1 => if (isq n + 1) * (isq n + 1) ≤ n + 1 then isq n + 1 else isq n
theorem isq_spec : ∀ n, isq n * isq n ≤ n ∧ n < (isq n + 1) * (isq n + 1)
  | 0 => by decide
  | n + 1 => by
    obtain ⟨h1, h2⟩ := isq_spec n
    unfold isq
    split
    · rename_i h
      refine ⟨h, ?_⟩
      have e : (isq n + 1 + 1) * (isq n + 1 + 1) = (isq n + 1) * (isq n + 1) + 2 * (isq n) + 3 := by grind
      omega
    · omega
theorem sq_lt {a b : Nat} (h : a * a < b * b) : a < b := by
  rcases Nat.lt_or_ge a b with z | z
  · exact z
  · have := Nat.mul_le_mul z z; omega
theorem isq_uniq {n k : Nat} (h1 : k * k ≤ n) (h2 : n < (k + 1) * (k + 1)) : k = isq n := by
  obtain ⟨g1, g2⟩ := isq_spec n
  have a := sq_lt (Nat.lt_of_le_of_lt h1 g2)
  have b := sq_lt (Nat.lt_of_le_of_lt g1 h2)
  omega
theorem isq_sq (k : Nat) : isq (k * k) = k := by
  refine (isq_uniq (Nat.le_refl _) ?_).symm
  have : (k + 1) * (k + 1) = k * k + 2 * k + 1 := by grind
  omega
theorem isq_pos {n : Nat} (h : 0 < n) : 0 < isq n := by
  obtain ⟨_, g2⟩ := isq_spec n
  rcases Nat.eq_zero_or_pos (isq n) with z | z
  · rw [z] at g2; omega
  · exact z
theorem isq_le (n : Nat) : isq n ≤ n := by
  obtain ⟨g1, _⟩ := isq_spec n
  rcases Nat.eq_zero_or_pos (isq n) with z | z
  · omega
  · have := Nat.le_mul_of_pos_left (isq n) z; omega
/-- a fraction's root, if it is a fraction times itself -/
def sqb (q : Rat) : Prop := ((isq q.num.toNat : Int) * isq q.num.toNat = q.num) ∧ ((isq q.den : Int) * isq q.den = q.den)
instance (q : Rat) : Decidable (sqb q) := by unfold sqb; infer_instance
end Lb

namespace Lb
open PySem PySem.Spec PyProof.Rows L2 Bl
theorem atI_0 {α : Type} {x : α} {l : List α} : atI (x :: l) 0 = some x := by
  unfold atI ixN
  simp
theorem atI_1 {α : Type} {x y : α} {l : List α} : atI (x :: y :: l) 1 = some y := atI_nat (j := 1) rfl
theorem atI_2 {α : Type} {x y z : α} {l : List α} : atI (x :: y :: z :: l) 2 = some z := atI_nat (j := 2) rfl
section
variable {i j : Int} {a b : List D} {S : Sto} {Q : DK} {P : Bool → Sto → Prop} {r : Addr} {x : Str} {c : Bool}
theorem truD_bl : truD (.bl c) S P = P c S := rfl
theorem truD_int : truD (.int i) S P = P (i != 0) S := rfl
theorem truD_non : truD .non S P = P false S := rfl
theorem truD_tup : truD (.tup a) S P = P (!a.isEmpty) S := rfl
theorem truD_lst : truD (.lst a) S P = P (!a.isEmpty) S := rfl
theorem truD_str : truD (.str x) S P = (x.length ≤ sizeLine ∧ P ((x.length : Int) != 0) S) := rfl
theorem truD_ref : truD (.ref r) S P = match S r with | some ds => P (!ds.isEmpty) S | none => False := rfl
theorem fAdd_int : fAdd (.int i) (.int j) S Q = Q (.int (i + j)) S := rfl
theorem fAdd_tup : fAdd (.tup a) (.tup b) S Q = (a.length + b.length ≤ sizeLine ∧ Q (.tup (a ++ b)) S) := rfl
theorem fIx_tup : fIx (.tup a) (.int i) S Q = match atI a i with | some d => Q d S | none => False := rfl
theorem fIx_lst : fIx (.lst a) (.int i) S Q = match atI a i with | some d => Q d S | none => False := rfl
theorem fIx_ref : fIx (.ref r) (.int i) S Q = match S r with | some ds => (match atI ds i with | some d => Q d S | none => False) | none => False := rfl
theorem bLen_tup : bLen [.tup a] S Q = Q (.int a.length) S := rfl
theorem bLen_lst : bLen [.lst a] S Q = Q (.int a.length) S := rfl
theorem bLen_ref : bLen [.ref r] S Q = match S r with | some xs => Q (.int xs.length) S | none => False := rfl
theorem bInt_int : bInt [.int i] S Q = Q (.int i) S := rfl
theorem bInt_bl : bInt [.bl c] S Q = Q (.int (if c then 1 else 0)) S := rfl
end
theorem ix20 : ixN 2 0 = some 0 := rfl
theorem ix21 : ixN 2 1 = some 1 := rfl
/-! ### the two tellings of gcd -/
theorem gcd_step {x y : Int} (hx : 0 < x) (hy : 0 ≤ y) : 0 ≤ y.fmod x ∧ y.fmod x < x ∧ Int.gcd (y.fmod x) x = Int.gcd x y := by
  have e : y.fmod x = y % x := Int.fmod_eq_emod_of_nonneg _ (by omega)
  rw [e]
  exact ⟨Int.emod_nonneg _ (by omega), Int.emod_lt_of_pos _ hx, by unfold Int.gcd; rw [Int.natAbs_emod_of_nonneg hy]; exact (Nat.gcd_rec x.natAbs y.natAbs).symm⟩
theorem fdiv_mul {a t : Int} (h : t ≠ 0) : (a * t).fdiv t = a := Int.mul_fdiv_cancel _ h
theorem sm.abs {n : Nat} {p : Int} (h : sm n p) : sm n (if p < 0 then -p else p) := by
  split
  · exact h.neg
  · exact h
theorem low_loop {p q : Int} {n : Nat} {r : Rat} {S : Sto} {N : Nd} (hq : 0 < q) (hp : sm n p) (hs : sm n q) (hn : n ≤ 8900) (h : r * q = p) (k : N.rt (fr r) S) :
    sSeq (sWhile (tbl (dTwo (vr 2) (cn (.int 0)) fGt)) (sPar [2, 3] (aCons (dTwo (vr 3) (vr 2) fMod) (aCons (vr 2) (aNil))))) (sRet (dTup (aCons (dTwo (vr 0) (vr 3) fDiv) (aCons (dTwo (vr 1) (vr 3) fDiv) (aNil)))))
      [some (.int p), some (.int q), some (.int (if p < 0 then -p else p)), some (.int q)] S N := by
  obtain ⟨t, et, t0, e1, e2⟩ := low_of (by omega) h
  rw [Int.sign_eq_one_of_pos hq, Int.one_mul] at et
  simp only [fnD, sNx, sSeq, sRet, sRetN, sDrop, sIf, sBrk, sCnt, sAsg, sPar, sAug, sSub, setD, sThru, asgT, asgL, itemsOf, vr, cn, dTwo, tbl, ttr, truD_bl, truD_int, truD_non, truD_tup, truD_lst, truD_str, truD_ref, tAndD, tOrD, tNotD, vOf, eIf, vNot, dNeg, fAdd_int, fAdd_tup, fSub, fMul, fDiv, fMod, fPow, fShl, fLt, fLe, fGt, fGe, fEq, fNe, fIx_tup, fIx_lst, fIx_ref, aNil, aCons, dTup, dLst, dLstR, dB, bAbs, bLen_tup, bLen_lst, bLen_ref, bMax, bMin, bInt_int, bInt_bl, dBits, dCall, iVal, iR1, iR2, List.map_cons, List.map_nil, List.length_cons, List.length_nil, List.replicate, List.cons_append, List.nil_append, List.append_nil, List.set, List.getElem?_cons_zero, List.getElem?_cons_succ, List.getElem?_nil, atI_0, atI_1, atI_2, ix20, ix21, sup_same, Nat.reduceAdd, Nat.reduceSub, Nat.succ_eq_add_one, decide_eq_true_eq, Bool.not_eq_true', decide_eq_false_iff_not, true_and, and_true, Bool.true_eq_false, Bool.false_eq_true, if_true, if_false, reduceCtorEq]
  refine ⟨fun m e s => ∃ x y : Int, e = [some (.int p), some (.int q), some (.int x), some (.int y)] ∧ s = S ∧ 0 ≤ x ∧ 0 < y ∧ sm n x ∧ sm n y ∧ (Int.gcd x y : Int) = t ∧ m = x.toNat, ⟨_, _, q, rfl, rfl, by split <;> omega, hq, hp.abs, hs, ?_, rfl⟩, ?_⟩
  · rw [et]
    split
    · rw [Int.neg_gcd]
    · rfl
  · rintro m e s ⟨x, y, rfl, rfl, hx, hy, hxs, hys, hg, rfl⟩
    simp only [fnD, sNx, sSeq, sRet, sRetN, sDrop, sIf, sBrk, sCnt, sAsg, sPar, sAug, sSub, setD, sThru, asgT, asgL, itemsOf, vr, cn, dTwo, tbl, ttr, truD_bl, truD_int, truD_non, truD_tup, truD_lst, truD_str, truD_ref, tAndD, tOrD, tNotD, vOf, eIf, vNot, dNeg, fAdd_int, fAdd_tup, fSub, fMul, fDiv, fMod, fPow, fShl, fLt, fLe, fGt, fGe, fEq, fNe, fIx_tup, fIx_lst, fIx_ref, aNil, aCons, dTup, dLst, dLstR, dB, bAbs, bLen_tup, bLen_lst, bLen_ref, bMax, bMin, bInt_int, bInt_bl, dBits, dCall, iVal, iR1, iR2, List.map_cons, List.map_nil, List.length_cons, List.length_nil, List.replicate, List.cons_append, List.nil_append, List.append_nil, List.set, List.getElem?_cons_zero, List.getElem?_cons_succ, List.getElem?_nil, atI_0, atI_1, atI_2, ix20, ix21, sup_same, Nat.reduceAdd, Nat.reduceSub, Nat.succ_eq_add_one, decide_eq_true_eq, Bool.not_eq_true', decide_eq_false_iff_not, true_and, and_true, Bool.true_eq_false, Bool.false_eq_true, if_true, if_false, reduceCtorEq]
    split
    · rename_i hx0
      obtain ⟨g1, g2, g3⟩ := gcd_step hx0 (show 0 ≤ y by omega)
      exact ⟨by omega, (y.fmod x).toNat, by omega, _, x, rfl, g1, hx0, by unfold sm at *; omega, hxs, by rw [g3]; exact hg, rfl⟩
    · have hx1 : x = 0 := by omega
      subst hx1
      rw [Int.gcd_zero_left] at hg
      have hy2 : y = t := by omega
      subst hy2
      have hd : CDiv' y := hys.cdiv (by omega) (by omega)
      refine ⟨hd, hd, by decide, ?_⟩
      have d1 : p.fdiv y = r.num := by rw [e1, fdiv_mul t0]
      have d2 : q.fdiv y = r.den := by rw [e2, fdiv_mul t0]
      rw [d1, d2]
      exact k
theorem low_spec {p q : Int} {n : Nat} {r : Rat} {S : Sto} {Q : DK} {E : EK} (hq : q ≠ 0) (hp : sm n p) (hs : sm n q) (hn : n ≤ 8900) (h : r * q = p) (k : Q (fr r) S) : m_l_low [.int p, .int q] S Q E := by
  unfold m_l_low t_l_low
  by_cases hq0 : q < 0
  · have z := low_loop (p := 0 - p) (q := 0 - q) (n := n) (r := r) (S := S) (N := ⟨fun _ S1 => Q .non S1, Q, fun _ _ => False, fun _ _ => False, fun x _ S1 => E x S1⟩) (by omega) (by unfold sm at *; omega) (by unfold sm at *; omega) hn (by
      simp only [Rat.intCast_sub]
      grind) k
    simp only [fnD, sNx, sSeq, sRet, sRetN, sDrop, sIf, sBrk, sCnt, sAsg, sPar, sAug, sSub, setD, sThru, asgT, asgL, itemsOf, vr, cn, dTwo, tbl, ttr, truD_bl, truD_int, truD_non, truD_tup, truD_lst, truD_str, truD_ref, tAndD, tOrD, tNotD, vOf, eIf, vNot, dNeg, fAdd_int, fAdd_tup, fSub, fMul, fDiv, fMod, fPow, fShl, fLt, fLe, fGt, fGe, fEq, fNe, fIx_tup, fIx_lst, fIx_ref, aNil, aCons, dTup, dLst, dLstR, dB, bAbs, bLen_tup, bLen_lst, bLen_ref, bMax, bMin, bInt_int, bInt_bl, dBits, dCall, iVal, iR1, iR2, List.map_cons, List.map_nil, List.length_cons, List.length_nil, List.replicate, List.cons_append, List.nil_append, List.append_nil, List.set, List.getElem?_cons_zero, List.getElem?_cons_succ, List.getElem?_nil, atI_0, atI_1, atI_2, ix20, ix21, sup_same, Nat.reduceAdd, Nat.reduceSub, Nat.succ_eq_add_one, decide_eq_true_eq, Bool.not_eq_true', decide_eq_false_iff_not, true_and, and_true, Bool.true_eq_false, Bool.false_eq_true, if_true, if_false, reduceCtorEq] at z ⊢
    rw [if_pos hq0]
    exact z
  · have z := low_loop (p := p) (q := q) (n := n) (r := r) (S := S) (N := ⟨fun _ S1 => Q .non S1, Q, fun _ _ => False, fun _ _ => False, fun x _ S1 => E x S1⟩) (by omega) hp hs hn h k
    simp only [fnD, sNx, sSeq, sRet, sRetN, sDrop, sIf, sBrk, sCnt, sAsg, sPar, sAug, sSub, setD, sThru, asgT, asgL, itemsOf, vr, cn, dTwo, tbl, ttr, truD_bl, truD_int, truD_non, truD_tup, truD_lst, truD_str, truD_ref, tAndD, tOrD, tNotD, vOf, eIf, vNot, dNeg, fAdd_int, fAdd_tup, fSub, fMul, fDiv, fMod, fPow, fShl, fLt, fLe, fGt, fGe, fEq, fNe, fIx_tup, fIx_lst, fIx_ref, aNil, aCons, dTup, dLst, dLstR, dB, bAbs, bLen_tup, bLen_lst, bLen_ref, bMax, bMin, bInt_int, bInt_bl, dBits, dCall, iVal, iR1, iR2, List.map_cons, List.map_nil, List.length_cons, List.length_nil, List.replicate, List.cons_append, List.nil_append, List.append_nil, List.set, List.getElem?_cons_zero, List.getElem?_cons_succ, List.getElem?_nil, atI_0, atI_1, atI_2, ix20, ix21, sup_same, Nat.reduceAdd, Nat.reduceSub, Nat.succ_eq_add_one, decide_eq_true_eq, Bool.not_eq_true', decide_eq_false_iff_not, true_and, and_true, Bool.true_eq_false, Bool.false_eq_true, if_true, if_false, reduceCtorEq] at z ⊢
    rw [if_neg hq0]
    exact z
abbrev pr (a b : Int) : D := .tup [.int a, .int b]
theorem lplus_spec {a b c d : Int} {n : Nat} {r : Rat} {S : Sto} {Q : DK} {E : EK} (hb : b ≠ 0) (hd : d ≠ 0) (ha : sm n a) (hb' : sm n b) (hc : sm n c) (hd' : sm n d) (hn : n ≤ 4440) (h : r * (b * d : Int) = (a * d + c * b : Int)) (k : Q (fr r) S) : m_l_plus [pr a b, pr c d] S Q E := by
  unfold m_l_plus t_l_plus
  simp only [fnD, sNx, sSeq, sRet, sRetN, sDrop, sIf, sBrk, sCnt, sAsg, sPar, sAug, sSub, setD, sThru, asgT, asgL, itemsOf, vr, cn, dTwo, tbl, ttr, truD_bl, truD_int, truD_non, truD_tup, truD_lst, truD_str, truD_ref, tAndD, tOrD, tNotD, vOf, eIf, vNot, dNeg, fAdd_int, fAdd_tup, fSub, fMul, fDiv, fMod, fPow, fShl, fLt, fLe, fGt, fGe, fEq, fNe, fIx_tup, fIx_lst, fIx_ref, aNil, aCons, dTup, dLst, dLstR, dB, bAbs, bLen_tup, bLen_lst, bLen_ref, bMax, bMin, bInt_int, bInt_bl, dBits, dCall, iVal, iR1, iR2, List.map_cons, List.map_nil, List.length_cons, List.length_nil, List.replicate, List.cons_append, List.nil_append, List.append_nil, List.set, List.getElem?_cons_zero, List.getElem?_cons_succ, List.getElem?_nil, atI_0, atI_1, atI_2, ix20, ix21, sup_same, Nat.reduceAdd, Nat.reduceSub, Nat.succ_eq_add_one, decide_eq_true_eq, Bool.not_eq_true', decide_eq_false_iff_not, true_and, and_true, Bool.true_eq_false, Bool.false_eq_true, if_true, if_false, reduceCtorEq]
  refine ⟨ha.cmul hd' (by omega), hc.cmul hb' (by omega), hb'.cmul hd' (by omega), ?_⟩
  exact low_spec (n := n + n + 1) (Int.mul_ne_zero hb hd) ((ha.mul hd').add (hc.mul hb')) ((hb'.mul hd').mono (by omega)) (by omega) h k
theorem lplus_fr {a b : Rat} {n : Nat} {S : Sto} {Q : DK} {E : EK} (ha : sr n a) (hb : sr n b) (hn : n ≤ 4440) (k : Q (fr (a + b)) S) : m_l_plus [fr a, fr b] S Q E :=
  lplus_spec (den_ne a) (den_ne b) ha.n ha.d hb.n hb.d hn (by
    have e1 := num_den a
    have e2 := num_den b
    simp only [Rat.intCast_mul, Rat.intCast_add]
    grind) k
/-! ### the drawn numbers -/
def Bg (S : Sto) (a : Addr) : Prop := ∃ c m : Int, S a = some [.int c, .int m] ∧ 0 ≤ c ∧ 0 ≤ m ∧ m < 2147483648
def Fr (S S' : Sto) (a : Addr) : Prop := ∀ b, b ≠ a → S' b = S b
theorem Fr.refl (S : Sto) (a : Addr) : Fr S S a := fun _ _ => rfl
theorem Fr.trans {S S1 S2 : Sto} {a : Addr} (h : Fr S S1 a) (k : Fr S1 S2 a) : Fr S S2 a := fun b hb => (k b hb).trans (h b hb)
theorem Fr.sup {S : Sto} {a : Addr} {ds : List D} : Fr S (sup S a ds) a := fun b hb => sup_ne hb
theorem fmod_pos {a b : Int} (h : 0 < b) : 0 ≤ a.fmod b ∧ a.fmod b < b := by
  rw [Int.fmod_eq_emod_of_nonneg _ (by omega)]
  exact ⟨Int.emod_nonneg _ (by omega), Int.emod_lt_of_pos _ h⟩
theorem fdiv_nonneg {a b : Int} (h : 0 < b) (ha : 0 ≤ a) : 0 ≤ a.fdiv b := by
  rw [Int.fdiv_eq_ediv_of_nonneg _ (by omega)]
  exact Int.ediv_nonneg ha (by omega)
theorem take_spec {a : Addr} {many : Int} {S : Sto} {Q : DK} {E : EK} (hb : Bg S a) (h0 : 0 < many) (h1 : sm 9000 many) (k : ∀ d S', 0 ≤ d → d < many → Bg S' a → Fr S S' a → Q (.int d) S') : m_l_take [.ref a, .int many] S Q E := by
  obtain ⟨c, m, e, hc, hm, hm2⟩ := hb
  unfold m_l_take t_l_take
  simp only [e, fnD, sNx, sSeq, sRet, sRetN, sDrop, sIf, sBrk, sCnt, sAsg, sPar, sAug, sSub, setD, sThru, asgT, asgL, itemsOf, vr, cn, dTwo, tbl, ttr, truD_bl, truD_int, truD_non, truD_tup, truD_lst, truD_str, truD_ref, tAndD, tOrD, tNotD, vOf, eIf, vNot, dNeg, fAdd_int, fAdd_tup, fSub, fMul, fDiv, fMod, fPow, fShl, fLt, fLe, fGt, fGe, fEq, fNe, fIx_tup, fIx_lst, fIx_ref, aNil, aCons, dTup, dLst, dLstR, dB, bAbs, bLen_tup, bLen_lst, bLen_ref, bMax, bMin, bInt_int, bInt_bl, dBits, dCall, iVal, iR1, iR2, List.map_cons, List.map_nil, List.length_cons, List.length_nil, List.replicate, List.cons_append, List.nil_append, List.append_nil, List.set, List.getElem?_cons_zero, List.getElem?_cons_succ, List.getElem?_nil, atI_0, atI_1, atI_2, ix20, ix21, sup_same, Nat.reduceAdd, Nat.reduceSub, Nat.succ_eq_add_one, decide_eq_true_eq, Bool.not_eq_true', decide_eq_false_iff_not, true_and, and_true, Bool.true_eq_false, Bool.false_eq_true, if_true, if_false, reduceCtorEq]
  split
  · rename_i hc0
    exact ⟨by omega, h1.cdiv (by omega) (by omega), k _ _ (fmod_pos h0).1 (fmod_pos h0).2 ⟨_, _, sup_same, fdiv_nonneg h0 hc, hm, hm2⟩ Fr.sup⟩
  · have g := fmod_pos (a := m * 48271) (b := 2147483647) (by omega)
    refine ⟨(sm.of (n := 32) (by omega)).cmul (sm.of (n := 32) (by decide)) (by decide), by decide, by decide, ?_, by decide, by decide, by omega, k _ _ (fmod_pos h0).1 (fmod_pos h0).2 ⟨_, _, sup_same, hc, g.1, by omega⟩ Fr.sup⟩
    have z := (sm.of (n := 31) (i := (m * 48271).fmod 2147483647) (by omega)).bits
    omega
theorem sm_k {i : Int} (h : i.natAbs < 2 ^ 8) : sm 9000 i := sm.mono (m := 8) h (by decide)
def rabs (r : Rat) : Rat := if r.num < 0 then -r else r
theorem rabs_num (r : Rat) : (rabs r).num = if r.num < 0 then -r.num else r.num := by
  unfold rabs
  split
  · rfl
  · rfl
theorem rabs_den (r : Rat) : (rabs r).den = r.den := by
  unfold rabs
  split <;> rfl
theorem sr.abs {n : Nat} {r : Rat} (h : sr n r) : sr n (rabs r) := ⟨by rw [rabs_num]; exact h.n.abs, by rw [rabs_den]; exact h.d⟩
theorem sq_nonneg (r : Rat) : 0 ≤ r * r := by
  rcases Rat.le_total (a := 0) (b := r) with h | h
  · exact Rat.mul_nonneg h h
  · have : r * r = (-r) * (-r) := by grind
    rw [this]
    exact Rat.mul_nonneg (by grind) (by grind)
/-! ### roots of whole numbers -/
theorem isq_of {n f : Int} (h0 : 0 ≤ f) (h1 : f * f ≤ n) (h2 : n < (f + 1) * (f + 1)) : f = (isq n.toNat : Int) := by
  obtain ⟨m, rfl⟩ := Int.eq_ofNat_of_zero_le h0
  have hn : 0 ≤ n := Int.le_trans (Int.mul_nonneg h0 h0) h1
  obtain ⟨k, rfl⟩ := Int.eq_ofNat_of_zero_le hn
  rw [Int.toNat_natCast]
  have := isq_uniq (n := k) (k := m) (by exact_mod_cast h1) (by exact_mod_cast h2)
  omega
theorem root_of_spec {n : Int} {m : Nat} {S : Sto} {Q : DK} {E : EK} (h0 : 0 ≤ n) (hs : sm m n) (hm : m ≤ 100000) (k : Q (.int (isq n.toNat)) S) : m_l_root_of [.int n] S Q E := by
  unfold m_l_root_of t_l_root_of
  simp only [fnD, sNx, sSeq, sRet, sRetN, sDrop, sIf, sBrk, sCnt, sAsg, sPar, sAug, sSub, setD, sThru, asgT, asgL, itemsOf, vr, cn, dTwo, tbl, ttr, truD_bl, truD_int, truD_non, truD_tup, truD_lst, truD_str, truD_ref, tAndD, tOrD, tNotD, vOf, eIf, vNot, dNeg, fAdd_int, fAdd_tup, fSub, fMul, fDiv, fMod, fPow, fShl, fLt, fLe, fGt, fGe, fEq, fNe, fIx_tup, fIx_lst, fIx_ref, aNil, aCons, dTup, dLst, dLstR, dB, bAbs, bLen_tup, bLen_lst, bLen_ref, bMax, bMin, bInt_int, bInt_bl, dBits, dCall, iVal, iR1, iR2, List.map_cons, List.map_nil, List.length_cons, List.length_nil, List.replicate, List.cons_append, List.nil_append, List.append_nil, List.set, List.getElem?_cons_zero, List.getElem?_cons_succ, List.getElem?_nil, atI_0, atI_1, atI_2, ix20, ix21, sup_same, Nat.reduceAdd, Nat.reduceSub, Nat.succ_eq_add_one, decide_eq_true_eq, Bool.not_eq_true', decide_eq_false_iff_not, true_and, and_true, Bool.true_eq_false, Bool.false_eq_true, if_true, if_false, reduceCtorEq]
  refine ⟨fun j e s => ∃ lo hi : Int, ∃ o, e = [some (.int n), some (.int lo), some (.int hi), o] ∧ s = S ∧ 0 ≤ lo ∧ lo < hi ∧ hi ≤ n + 1 ∧ lo * lo ≤ n ∧ n < hi * hi ∧ j = (hi - lo).toNat, ⟨_, 0, n + 1, _, rfl, rfl, by omega, by omega, by omega, by omega, ?_, rfl⟩, ?_⟩
  · have : (n + 1) * (n + 1) = n * n + n + n + 1 := by grind
    have := Int.mul_nonneg h0 h0
    omega
  · rintro j e s ⟨lo, hi, o, rfl, rfl, l0, l1, l2, l3, l4, rfl⟩
    simp only [fnD, sNx, sSeq, sRet, sRetN, sDrop, sIf, sBrk, sCnt, sAsg, sPar, sAug, sSub, setD, sThru, asgT, asgL, itemsOf, vr, cn, dTwo, tbl, ttr, truD_bl, truD_int, truD_non, truD_tup, truD_lst, truD_str, truD_ref, tAndD, tOrD, tNotD, vOf, eIf, vNot, dNeg, fAdd_int, fAdd_tup, fSub, fMul, fDiv, fMod, fPow, fShl, fLt, fLe, fGt, fGe, fEq, fNe, fIx_tup, fIx_lst, fIx_ref, aNil, aCons, dTup, dLst, dLstR, dB, bAbs, bLen_tup, bLen_lst, bLen_ref, bMax, bMin, bInt_int, bInt_bl, dBits, dCall, iVal, iR1, iR2, List.map_cons, List.map_nil, List.length_cons, List.length_nil, List.replicate, List.cons_append, List.nil_append, List.append_nil, List.set, List.getElem?_cons_zero, List.getElem?_cons_succ, List.getElem?_nil, atI_0, atI_1, atI_2, ix20, ix21, sup_same, Nat.reduceAdd, Nat.reduceSub, Nat.succ_eq_add_one, decide_eq_true_eq, Bool.not_eq_true', decide_eq_false_iff_not, true_and, and_true, Bool.true_eq_false, Bool.false_eq_true, if_true, if_false, reduceCtorEq]
    split
    · rename_i hc
      have hmid : lo < (lo + hi).fdiv 2 ∧ (lo + hi).fdiv 2 < hi := by
        rw [Int.fdiv_eq_ediv_of_nonneg _ (by omega)]
        omega
      generalize (lo + hi).fdiv 2 = mid at *
      have hms : sm m mid ∨ mid = n := by
        by_cases z : mid = n
        · exact .inr z
        · left; unfold sm at *; omega
      have hms : sm m mid := by
        rcases hms with z | z
        · exact z
        · rw [z]; exact hs
      refine ⟨⟨by decide, by decide⟩, hms.cmul hms (by omega), ?_⟩
      split
      · rename_i h
        exact ⟨(hi - mid).toNat, by omega, mid, hi, _, rfl, by omega, by omega, l2, h, l4, rfl⟩
      · rename_i h
        exact ⟨(mid - lo).toNat, by omega, lo, mid, _, rfl, by omega, by omega, by omega, l3, by omega, rfl⟩
    · have eh : hi = lo + 1 := by omega
      subst eh
      rw [← isq_of l0 l3 l4] at k
      exact k
theorem eq_int (i j : Int) : eqD (.int i) (.int j) = decide (i = j) := by
  show (i == j) = _
  rw [Bool.eq_iff_iff]
  simp
theorem ok_int (i : Int) : okD (.int i) := ⟨rfl, rfl⟩
theorem bits_lt (n : Int) : n.natAbs < 2 ^ Builtin.Int.intBits n := by
  unfold Builtin.Int.intBits
  split
  · rename_i h
    have : n = 0 := by simpa using h
    subst this
    decide
  · rename_i h
    have h0 : n.natAbs ≠ 0 := by
      intro z
      apply h
      have : n = 0 := by omega
      rw [this]
      rfl
    exact (Nat.log2_lt h0).mp (Nat.lt_succ_self _)
theorem whole_root_spec {n : Int} {m : Nat} {S : Sto} {Q : DK} {E : EK} (h0 : 0 ≤ n) (hs : sm m n) (hm : m ≤ 17000) (k : Q (.int (isq n.toNat)) S) : m_whole_root [.int n] S Q E := by
  unfold m_whole_root t_whole_root
  simp only [eq_int, fnD, sNx, sSeq, sRet, sRetN, sDrop, sIf, sBrk, sCnt, sAsg, sPar, sAug, sSub, setD, sThru, asgT, asgL, itemsOf, vr, cn, dTwo, tbl, ttr, truD_bl, truD_int, truD_non, truD_tup, truD_lst, truD_str, truD_ref, tAndD, tOrD, tNotD, vOf, eIf, vNot, dNeg, fAdd_int, fAdd_tup, fSub, fMul, fDiv, fMod, fPow, fShl, fLt, fLe, fGt, fGe, fEq, fNe, fIx_tup, fIx_lst, fIx_ref, aNil, aCons, dTup, dLst, dLstR, dB, bAbs, bLen_tup, bLen_lst, bLen_ref, bMax, bMin, bInt_int, bInt_bl, dBits, dCall, iVal, iR1, iR2, List.map_cons, List.map_nil, List.length_cons, List.length_nil, List.replicate, List.cons_append, List.nil_append, List.append_nil, List.set, List.getElem?_cons_zero, List.getElem?_cons_succ, List.getElem?_nil, atI_0, atI_1, atI_2, ix20, ix21, sup_same, Nat.reduceAdd, Nat.reduceSub, Nat.succ_eq_add_one, decide_eq_true_eq, Bool.not_eq_true', decide_eq_false_iff_not, true_and, and_true, Bool.true_eq_false, Bool.false_eq_true, if_true, if_false, reduceCtorEq]
  refine ⟨ok_int _, ok_int _, ?_⟩
  split
  · rename_i h
    subst h
    exact k
  · rename_i hn
    have hb := hs.bits
    have hlt := bits_lt n
    refine ⟨⟨by decide, by decide⟩, ⟨?_, ?_, by decide⟩, ?_⟩
    · exact fdiv_nonneg (by omega) (by omega)
    · rw [Int.fdiv_eq_ediv_of_nonneg _ (by omega)]
      omega
    · have e0 : ((((Builtin.Int.intBits n : Nat) : Int) + 1).fdiv 2).toNat = (Builtin.Int.intBits n + 1) / 2 := by
        rw [Int.fdiv_eq_ediv_of_nonneg _ (by omega)]
        omega
      rw [e0, Int.one_mul]
      generalize hh : (Builtin.Int.intBits n + 1) / 2 = h at *
      have hp : n < 2 ^ h * 2 ^ h := by
        have : n.natAbs < 2 ^ (h + h) := Nat.lt_of_lt_of_le hlt (Nat.pow_le_pow_right (by decide) (by omega))
        rw [Nat.pow_add] at this
        have e : n = (n.natAbs : Int) := by omega
        rw [e]
        exact_mod_cast this
      have hpp : (0 : Int) < 2 ^ h := Int.pow_pos (by decide)
      have hps : sm (m / 2 + 2) (2 ^ h) := by
        unfold sm
        rw [Int.natAbs_pow]
        exact Nat.pow_lt_pow_right (by decide) (by omega)
      have hnn : 0 < n := by omega
      clear hlt e0
      refine ⟨fun j e s => ∃ f : Int, e = [some (.int n), some (.int f)] ∧ s = S ∧ 0 < f ∧ n < (f + 1) * (f + 1) ∧ sm (m / 2 + 2) f ∧ j = f.toNat, ⟨_, 2 ^ h, rfl, rfl, hpp, ?_, hps, rfl⟩, ?_⟩
      · have : (2 ^ h + 1 : Int) * (2 ^ h + 1) = 2 ^ h * 2 ^ h + 2 * 2 ^ h + 1 := by grind
        omega
      · rintro j e s ⟨f, rfl, rfl, f0, f1, f2, rfl⟩
        simp only [fnD, sNx, sSeq, sRet, sRetN, sDrop, sIf, sBrk, sCnt, sAsg, sPar, sAug, sSub, setD, sThru, asgT, asgL, itemsOf, vr, cn, dTwo, tbl, ttr, truD_bl, truD_int, truD_non, truD_tup, truD_lst, truD_str, truD_ref, tAndD, tOrD, tNotD, vOf, eIf, vNot, dNeg, fAdd_int, fAdd_tup, fSub, fMul, fDiv, fMod, fPow, fShl, fLt, fLe, fGt, fGe, fEq, fNe, fIx_tup, fIx_lst, fIx_ref, aNil, aCons, dTup, dLst, dLstR, dB, bAbs, bLen_tup, bLen_lst, bLen_ref, bMax, bMin, bInt_int, bInt_bl, dBits, dCall, iVal, iR1, iR2, List.map_cons, List.map_nil, List.length_cons, List.length_nil, List.replicate, List.cons_append, List.nil_append, List.append_nil, List.set, List.getElem?_cons_zero, List.getElem?_cons_succ, List.getElem?_nil, atI_0, atI_1, atI_2, ix20, ix21, sup_same, Nat.reduceAdd, Nat.reduceSub, Nat.succ_eq_add_one, decide_eq_true_eq, Bool.not_eq_true', decide_eq_false_iff_not, true_and, and_true, Bool.true_eq_false, Bool.false_eq_true, if_true, if_false, reduceCtorEq]
        refine ⟨f2.cmul f2 (by omega), ?_⟩
        split
        · rename_i hc
          refine ⟨f2.cdiv (by omega) (by omega), ⟨by decide, by decide⟩, ?_⟩
          rw [Int.fdiv_eq_ediv_of_nonneg n (by omega), Int.fdiv_eq_ediv_of_nonneg _ (by omega)]
          have d1 : n / f * f ≤ n := Int.ediv_mul_le n (by omega)
          have d2 : n < (n / f + 1) * f := Int.lt_ediv_add_one_mul_self n f0
          have d0 : 0 ≤ n / f := Int.ediv_nonneg h0 (by omega)
          generalize n / f = g at *
          have d3 : g < f := by
            rcases Int.lt_or_le g f with z | z
            · exact z
            · have := Int.mul_le_mul_of_nonneg_right z (show 0 ≤ f by omega)
              omega
          obtain ⟨u, hu⟩ : ∃ u, u = (f + g) / 2 := ⟨_, rfl⟩
          rw [← hu]
          have u1 : f + g ≤ 2 * u + 1 := by omega
          have u2 : u < f := by omega
          have u3 : n < (u + 1) * (u + 1) := by
            have a1 : (f + g + 1) * f ≤ (2 * (u + 1)) * f := Int.mul_le_mul_of_nonneg_right (by omega) (by omega)
            have a2 : 0 ≤ (u + 1 - f) * (u + 1 - f) := by
              rcases Int.le_total 0 (u + 1 - f) with z | z
              · exact Int.mul_nonneg z z
              · exact Int.mul_nonneg_of_nonpos_of_nonpos z z
            have a3 : (f + g + 1) * f = f * f + (g + 1) * f := by grind
            have a4 : (u + 1) * (u + 1) = 2 * (u + 1) * f - f * f + (u + 1 - f) * (u + 1 - f) := by grind
            omega
          have u4 : 0 < u := by
            rcases Int.lt_or_le 0 u with z | z
            · exact z
            · have : u = 0 := by omega
              rw [this] at u3
              omega
          exact ⟨u.toNat, by omega, u, rfl, u4, u3, by unfold sm at *; omega, rfl⟩
        · rename_i hc
          rw [← isq_of (by omega) (by omega) f1] at k
          exact k
theorem isq_sm {n : Int} {m : Nat} (h0 : 0 ≤ n) (h : sm m n) : sm m (isq n.toNat) := by
  have := isq_le n.toNat
  unfold sm at *
  omega
end Lb

namespace Lb
open PySem PySem.Spec PyProof.Rows L2 Bl
/-! ### roots of fractions -/
structure Rt where
  b : Rat
  s : Int
  q : Rat
abbrev rt (x : Rt) : D := .tup [fr x.b, .int x.s, fr x.q]
/-! ### the program's fractions -/
theorem common_spec {p q : Int} {n : Nat} {S : Sto} {Q : DK} {E : EK} (hp : sm n p) (hq : sm n q) (k : Q (.int (Int.gcd p q)) S) : m_common [.int p, .int q] S Q E := by
  unfold m_common t_common
  simp only [fnD, sNx, sSeq, sRet, sRetN, sDrop, sIf, sBrk, sCnt, sAsg, sPar, sAug, sSub, setD, sThru, asgT, asgL, itemsOf, vr, cn, dTwo, tbl, ttr, truD_bl, truD_int, truD_non, truD_tup, truD_lst, truD_str, truD_ref, tAndD, tOrD, tNotD, vOf, eIf, vNot, dNeg, fAdd_int, fAdd_tup, fSub, fMul, fDiv, fMod, fPow, fShl, fLt, fLe, fGt, fGe, fEq, fNe, fIx_tup, fIx_lst, fIx_ref, aNil, aCons, dTup, dLst, dLstR, dB, bAbs, bLen_tup, bLen_lst, bLen_ref, bMax, bMin, bInt_int, bInt_bl, dBits, dCall, iVal, iR1, iR2, List.map_cons, List.map_nil, List.length_cons, List.length_nil, List.replicate, List.cons_append, List.nil_append, List.append_nil, List.set, List.getElem?_cons_zero, List.getElem?_cons_succ, List.getElem?_nil, atI_0, atI_1, atI_2, ix20, ix21, sup_same, Nat.reduceAdd, Nat.reduceSub, Nat.succ_eq_add_one, decide_eq_true_eq, Bool.not_eq_true', decide_eq_false_iff_not, true_and, and_true, Bool.true_eq_false, Bool.false_eq_true, if_true, if_false, reduceCtorEq]
  refine ⟨fun m e s => ∃ x y : Int, e = [some (.int x), some (.int y)] ∧ s = S ∧ 0 ≤ x ∧ 0 ≤ y ∧ (Int.gcd x y) = Int.gcd p q ∧ m = y.toNat, ⟨_, _, _, rfl, rfl, by split <;> omega, by split <;> omega, ?_, rfl⟩, ?_⟩
  · split <;> split <;> simp only [Int.neg_gcd, Int.gcd_neg]
  · rintro m e s ⟨x, y, rfl, rfl, hx, hy, hg, rfl⟩
    simp only [eq_int, fnD, sNx, sSeq, sRet, sRetN, sDrop, sIf, sBrk, sCnt, sAsg, sPar, sAug, sSub, setD, sThru, asgT, asgL, itemsOf, vr, cn, dTwo, tbl, ttr, truD_bl, truD_int, truD_non, truD_tup, truD_lst, truD_str, truD_ref, tAndD, tOrD, tNotD, vOf, eIf, vNot, dNeg, fAdd_int, fAdd_tup, fSub, fMul, fDiv, fMod, fPow, fShl, fLt, fLe, fGt, fGe, fEq, fNe, fIx_tup, fIx_lst, fIx_ref, aNil, aCons, dTup, dLst, dLstR, dB, bAbs, bLen_tup, bLen_lst, bLen_ref, bMax, bMin, bInt_int, bInt_bl, dBits, dCall, iVal, iR1, iR2, List.map_cons, List.map_nil, List.length_cons, List.length_nil, List.replicate, List.cons_append, List.nil_append, List.append_nil, List.set, List.getElem?_cons_zero, List.getElem?_cons_succ, List.getElem?_nil, atI_0, atI_1, atI_2, ix20, ix21, sup_same, Nat.reduceAdd, Nat.reduceSub, Nat.succ_eq_add_one, decide_eq_true_eq, Bool.not_eq_true', decide_eq_false_iff_not, true_and, and_true, Bool.true_eq_false, Bool.false_eq_true, if_true, if_false, reduceCtorEq]
    refine ⟨ok_int _, ok_int _, ?_⟩
    by_cases h : y = 0
    · subst h
      rw [Int.gcd_zero_right] at hg
      have : x = ((Int.gcd p q : Nat) : Int) := by omega
      rw [← this] at k
      simpa using k
    · obtain ⟨g1, g2, g3⟩ := gcd_step (show 0 < y by omega) hx
      rw [if_pos (by simpa using h)]
      exact ⟨h, (x.fmod y).toNat, by omega, y, _, rfl, hy, g1, by rw [Int.gcd_comm, g3, Int.gcd_comm]; exact hg, rfl⟩
theorem frac_spec {p q : Int} {n : Nat} {r : Rat} {S : Sto} {Q : DK} {E : EK} (hq : q ≠ 0) (hp : sm n p) (hs : sm n q) (hn : n ≤ 8900) (h : r * q = p) (k : Q (fr r) S) : m_frac [.int p, .int q] S Q E := by
  unfold m_frac t_frac
  simp only [fnD, sNx, sSeq, sRet, sRetN, sDrop, sIf, sBrk, sCnt, sAsg, sPar, sAug, sSub, setD, sThru, asgT, asgL, itemsOf, vr, cn, dTwo, tbl, ttr, truD_bl, truD_int, truD_non, truD_tup, truD_lst, truD_str, truD_ref, tAndD, tOrD, tNotD, vOf, eIf, vNot, dNeg, fAdd_int, fAdd_tup, fSub, fMul, fDiv, fMod, fPow, fShl, fLt, fLe, fGt, fGe, fEq, fNe, fIx_tup, fIx_lst, fIx_ref, aNil, aCons, dTup, dLst, dLstR, dB, bAbs, bLen_tup, bLen_lst, bLen_ref, bMax, bMin, bInt_int, bInt_bl, dBits, dCall, iVal, iR1, iR2, List.map_cons, List.map_nil, List.length_cons, List.length_nil, List.replicate, List.cons_append, List.nil_append, List.append_nil, List.set, List.getElem?_cons_zero, List.getElem?_cons_succ, List.getElem?_nil, atI_0, atI_1, atI_2, ix20, ix21, sup_same, Nat.reduceAdd, Nat.reduceSub, Nat.succ_eq_add_one, decide_eq_true_eq, Bool.not_eq_true', decide_eq_false_iff_not, true_and, and_true, Bool.true_eq_false, Bool.false_eq_true, if_true, if_false, reduceCtorEq]
  obtain ⟨t, et, t0, e1, e2⟩ := low_of hq h
  have es : q.fdiv (if q < 0 then -q else q) = q.sign := by
    split
    · rename_i hq0
      rw [Int.sign_eq_neg_one_of_neg hq0]
      have := fdiv_mul (a := -1) (t := -q) (by omega)
      rw [← this]
      congr 1
      omega
    · rename_i hq0
      rw [Int.sign_eq_one_of_pos (by omega), Int.fdiv_self (by omega)]
  rw [es]
  refine ⟨hs.abs.cdiv (by split <;> omega) (by omega), common_spec hp hs ?_⟩
  simp only [fnD, sNx, sSeq, sRet, sRetN, sDrop, sIf, sBrk, sCnt, sAsg, sPar, sAug, sSub, setD, sThru, asgT, asgL, itemsOf, vr, cn, dTwo, tbl, ttr, truD_bl, truD_int, truD_non, truD_tup, truD_lst, truD_str, truD_ref, tAndD, tOrD, tNotD, vOf, eIf, vNot, dNeg, fAdd_int, fAdd_tup, fSub, fMul, fDiv, fMod, fPow, fShl, fLt, fLe, fGt, fGe, fEq, fNe, fIx_tup, fIx_lst, fIx_ref, aNil, aCons, dTup, dLst, dLstR, dB, bAbs, bLen_tup, bLen_lst, bLen_ref, bMax, bMin, bInt_int, bInt_bl, dBits, dCall, iVal, iR1, iR2, List.map_cons, List.map_nil, List.length_cons, List.length_nil, List.replicate, List.cons_append, List.nil_append, List.append_nil, List.set, List.getElem?_cons_zero, List.getElem?_cons_succ, List.getElem?_nil, atI_0, atI_1, atI_2, ix20, ix21, sup_same, Nat.reduceAdd, Nat.reduceSub, Nat.succ_eq_add_one, decide_eq_true_eq, Bool.not_eq_true', decide_eq_false_iff_not, true_and, and_true, Bool.true_eq_false, Bool.false_eq_true, if_true, if_false, reduceCtorEq]
  have g1 : sm n (Int.gcd p q) := by
    have : Int.gcd p q ≤ q.natAbs := Nat.le_of_dvd (by omega) (Nat.gcd_dvd_right ..)
    unfold sm at *
    omega
  have g2 : sm 1 q.sign := by
    unfold sm
    rcases Int.lt_or_gt_of_ne hq with z | z
    · rw [Int.sign_eq_neg_one_of_neg z]; decide
    · rw [Int.sign_eq_one_of_pos z]; decide
  refine ⟨g1.cmul g2 (by omega), ?_⟩
  rw [Int.mul_comm, ← et]
  have ht : sm (n + 1) t := by rw [et]; exact (g2.mul g1).mono (by omega)
  have hd : CDiv' t := ht.cdiv t0 (by omega)
  have d1 : p.fdiv t = r.num := by rw [e1, fdiv_mul t0]
  have d2 : q.fdiv t = r.den := by rw [e2, fdiv_mul t0]
  rw [d1, d2]
  exact ⟨hd, hd, by decide, k⟩
theorem plus_spec {a b c d : Int} {n : Nat} {r : Rat} {S : Sto} {Q : DK} {E : EK} (hb : b ≠ 0) (hd : d ≠ 0) (ha : sm n a) (hb' : sm n b) (hc : sm n c) (hd' : sm n d) (hn : n ≤ 4440) (h : r * (b * d : Int) = (a * d + c * b : Int)) (k : Q (fr r) S) : m_plus [pr a b, pr c d] S Q E := by
  unfold m_plus t_plus
  simp only [fnD, sNx, sSeq, sRet, sRetN, sDrop, sIf, sBrk, sCnt, sAsg, sPar, sAug, sSub, setD, sThru, asgT, asgL, itemsOf, vr, cn, dTwo, tbl, ttr, truD_bl, truD_int, truD_non, truD_tup, truD_lst, truD_str, truD_ref, tAndD, tOrD, tNotD, vOf, eIf, vNot, dNeg, fAdd_int, fAdd_tup, fSub, fMul, fDiv, fMod, fPow, fShl, fLt, fLe, fGt, fGe, fEq, fNe, fIx_tup, fIx_lst, fIx_ref, aNil, aCons, dTup, dLst, dLstR, dB, bAbs, bLen_tup, bLen_lst, bLen_ref, bMax, bMin, bInt_int, bInt_bl, dBits, dCall, iVal, iR1, iR2, List.map_cons, List.map_nil, List.length_cons, List.length_nil, List.replicate, List.cons_append, List.nil_append, List.append_nil, List.set, List.getElem?_cons_zero, List.getElem?_cons_succ, List.getElem?_nil, atI_0, atI_1, atI_2, ix20, ix21, sup_same, Nat.reduceAdd, Nat.reduceSub, Nat.succ_eq_add_one, decide_eq_true_eq, Bool.not_eq_true', decide_eq_false_iff_not, true_and, and_true, Bool.true_eq_false, Bool.false_eq_true, if_true, if_false, reduceCtorEq]
  refine ⟨ha.cmul hd' (by omega), hc.cmul hb' (by omega), hb'.cmul hd' (by omega), ?_⟩
  exact frac_spec (n := n + n + 1) (Int.mul_ne_zero hb hd) ((ha.mul hd').add (hc.mul hb')) ((hb'.mul hd').mono (by omega)) (by omega) h k
theorem plus_fr {a b : Rat} {n : Nat} {S : Sto} {Q : DK} {E : EK} (ha : sr n a) (hb : sr n b) (hn : n ≤ 4440) (k : Q (fr (a + b)) S) : m_plus [fr a, fr b] S Q E :=
  plus_spec (den_ne a) (den_ne b) ha.n ha.d hb.n hb.d hn (by
    have e1 := num_den a
    have e2 := num_den b
    simp only [Rat.intCast_mul, Rat.intCast_add]
    grind) k
theorem vr_go {i : Nat} {env : Ev} {d : D} {S : Sto} {Q : DK} {E : EK} (h : env[i]? = some (some d)) (k : Q d S) : vr i env S Q E := by
  unfold vr
  rw [h]
  exact k
/-! ### the script's cells -/
theorem cell_spec {ns : List Int} {i : Int} {S : Sto} {Q : DK} {E : EK} (h : 0 ≤ i) (k : ∀ c : Int, Q (.int c) S) : m_l_cell_at [.lst (ns.map D.int), .int i] S Q E := by
  unfold m_l_cell_at t_l_cell_at
  simp only [fnD, sNx, sSeq, sRet, sRetN, sDrop, sIf, sBrk, sCnt, sAsg, sPar, sAug, sSub, setD, sThru, asgT, asgL, itemsOf, vr, cn, dTwo, tbl, ttr, truD_bl, truD_int, truD_non, truD_tup, truD_lst, truD_str, truD_ref, tAndD, tOrD, tNotD, vOf, eIf, vNot, dNeg, fAdd_int, fAdd_tup, fSub, fMul, fDiv, fMod, fPow, fShl, fLt, fLe, fGt, fGe, fEq, fNe, fIx_tup, fIx_lst, fIx_ref, aNil, aCons, dTup, dLst, dLstR, dB, bAbs, bLen_tup, bLen_lst, bLen_ref, bMax, bMin, bInt_int, bInt_bl, dBits, dCall, iVal, iR1, iR2, List.map_cons, List.map_nil, List.length_cons, List.length_nil, List.replicate, List.cons_append, List.nil_append, List.append_nil, List.set, List.getElem?_cons_zero, List.getElem?_cons_succ, List.getElem?_nil, atI_0, atI_1, atI_2, ix20, ix21, sup_same, Nat.reduceAdd, Nat.reduceSub, Nat.succ_eq_add_one, decide_eq_true_eq, Bool.not_eq_true', decide_eq_false_iff_not, true_and, and_true, Bool.true_eq_false, Bool.false_eq_true, if_true, if_false, reduceCtorEq]
  rw [List.length_map]
  split
  · rename_i hi
    have e : atI (ns.map D.int) i = some (.int (ns.getD i.toNat 0)) := by
      have : i = (i.toNat : Int) := by omega
      conv => lhs; rw [this]
      refine atI_nat ?_
      rw [List.getElem?_map, List.getD_eq_getElem?_getD, List.getElem?_eq_getElem (by omega)]
      rfl
    simp only [e, fnD, sNx, sSeq, sRet, sRetN, sDrop, sIf, sBrk, sCnt, sAsg, sPar, sAug, sSub, setD, sThru, asgT, asgL, itemsOf, vr, cn, dTwo, tbl, ttr, truD_bl, truD_int, truD_non, truD_tup, truD_lst, truD_str, truD_ref, tAndD, tOrD, tNotD, vOf, eIf, vNot, dNeg, fAdd_int, fAdd_tup, fSub, fMul, fDiv, fMod, fPow, fShl, fLt, fLe, fGt, fGe, fEq, fNe, fIx_tup, fIx_lst, fIx_ref, aNil, aCons, dTup, dLst, dLstR, dB, bAbs, bLen_tup, bLen_lst, bLen_ref, bMax, bMin, bInt_int, bInt_bl, dBits, dCall, iVal, iR1, iR2, List.map_cons, List.map_nil, List.length_cons, List.length_nil, List.replicate, List.cons_append, List.nil_append, List.append_nil, List.set, List.getElem?_cons_zero, List.getElem?_cons_succ, List.getElem?_nil, atI_0, atI_1, atI_2, ix20, ix21, sup_same, Nat.reduceAdd, Nat.reduceSub, Nat.succ_eq_add_one, decide_eq_true_eq, Bool.not_eq_true', decide_eq_false_iff_not, true_and, and_true, Bool.true_eq_false, Bool.false_eq_true, if_true, if_false, reduceCtorEq]
    exact k _
  · exact k _
theorem forD_ints {g : Tg} {b : TSd} {N : Nd} (P : Nat → Ev → Sto → Prop) {n : Nat} {lo : Int} (turn : ∀ i env S, i < n → P i env S → ∃ e1, asgT S g (.int (lo + i)) env = some e1 ∧ ∀ N' : Nd, (∀ e s, P (i + 1) e s → N'.nx e s) → (∀ e s, P (i + 1) e s → N'.ct e s) → N'.rt = N.rt → N'.bk = N.nx → N'.ex = N.ex → b e1 S N') (fin : ∀ env S, P n env S → N.nx env S) : ∀ (m : Nat) (i : Nat) {env : Ev} {S : Sto}, i + m = n → P i env S → forD g b ((List.range' i m).map fun i : Nat => D.int (lo + i)) env S N
  | 0, i, env, S, hi, h => by
    have : i = n := by omega
    subst this
    exact fin _ _ h
  | m + 1, i, env, S, hi, h => by
    obtain ⟨e1, ea, hb⟩ := turn i env S (by omega) h
    rw [List.range'_succ, List.map_cons]
    unfold forD
    rw [ea]
    exact hb _ (fun e s q => forD_ints P turn fin m (i + 1) (by omega) q) (fun e s q => forD_ints P turn fin m (i + 1) (by omega) q) rfl rfl rfl
theorem forD_rng {g : Tg} {b : TSd} {N : Nd} (P : Nat → Ev → Sto → Prop) {n : Nat} {lo : Int} {env : Ev} {S : Sto} (h : P 0 env S)
    (turn : ∀ i env S, i < n → P i env S → ∃ e1, asgT S g (.int (lo + i)) env = some e1 ∧ ∀ N' : Nd, (∀ e s, P (i + 1) e s → N'.nx e s) → (∀ e s, P (i + 1) e s → N'.ct e s) → N'.rt = N.rt → N'.bk = N.nx → N'.ex = N.ex → b e1 S N') (fin : ∀ env S, P n env S → N.nx env S) : forD g b (rngD lo n) env S N := by
  unfold rngD
  rw [List.range_eq_range']
  exact forD_ints P turn fin n 0 (by omega) h
theorem bag_spec {ns : List Int} {i : Int} {S : Sto} {Q : DK} {E : EK} (h : 0 ≤ i) (h2 : i < 10000) (k : ∀ a S', S a = none → Bg S' a → Fr S S' a → Q (.ref a) S') : m_l_bag [.lst (ns.map D.int), .int i] S Q E := by
  unfold m_l_bag t_l_bag
  simp only [fnD, sNx, sSeq, sRet, sRetN, sDrop, sIf, sBrk, sCnt, sAsg, sPar, sAug, sSub, setD, sThru, asgT, asgL, itemsOf, vr, cn, dTwo, tbl, ttr, truD_bl, truD_int, truD_non, truD_tup, truD_lst, truD_str, truD_ref, tAndD, tOrD, tNotD, vOf, eIf, vNot, dNeg, fAdd_int, fAdd_tup, fSub, fMul, fDiv, fMod, fPow, fShl, fLt, fLe, fGt, fGe, fEq, fNe, fIx_tup, fIx_lst, fIx_ref, aNil, aCons, dTup, dLst, dLstR, dB, bAbs, bLen_tup, bLen_lst, bLen_ref, bMax, bMin, bInt_int, bInt_bl, dBits, dCall, iVal, iR1, iR2, List.map_cons, List.map_nil, List.length_cons, List.length_nil, List.replicate, List.cons_append, List.nil_append, List.append_nil, List.set, List.getElem?_cons_zero, List.getElem?_cons_succ, List.getElem?_nil, atI_0, atI_1, atI_2, ix20, ix21, sup_same, Nat.reduceAdd, Nat.reduceSub, Nat.succ_eq_add_one, decide_eq_true_eq, Bool.not_eq_true', decide_eq_false_iff_not, true_and, and_true, Bool.true_eq_false, Bool.false_eq_true, if_true, if_false, reduceCtorEq]
  refine ⟨by decide, cell_spec h fun c => ?_⟩
  refine ⟨(sm.of (n := 13) (by decide)).cmul (sm.of (n := 14) (by omega)) (by decide), ?_⟩
  unfold sFor
  simp only [fnD, sNx, sSeq, sRet, sRetN, sDrop, sIf, sBrk, sCnt, sAsg, sPar, sAug, sSub, setD, sThru, asgT, asgL, itemsOf, vr, cn, dTwo, tbl, ttr, truD_bl, truD_int, truD_non, truD_tup, truD_lst, truD_str, truD_ref, tAndD, tOrD, tNotD, vOf, eIf, vNot, dNeg, fAdd_int, fAdd_tup, fSub, fMul, fDiv, fMod, fPow, fShl, fLt, fLe, fGt, fGe, fEq, fNe, fIx_tup, fIx_lst, fIx_ref, aNil, aCons, dTup, dLst, dLstR, dB, bAbs, bLen_tup, bLen_lst, bLen_ref, bMax, bMin, bInt_int, bInt_bl, dBits, dCall, iVal, iR1, iR2, List.map_cons, List.map_nil, List.length_cons, List.length_nil, List.replicate, List.cons_append, List.nil_append, List.append_nil, List.set, List.getElem?_cons_zero, List.getElem?_cons_succ, List.getElem?_nil, atI_0, atI_1, atI_2, ix20, ix21, sup_same, Nat.reduceAdd, Nat.reduceSub, Nat.succ_eq_add_one, decide_eq_true_eq, Bool.not_eq_true', decide_eq_false_iff_not, true_and, and_true, Bool.true_eq_false, Bool.false_eq_true, if_true, if_false, reduceCtorEq]
  refine ⟨by decide, by decide, ?_⟩
  refine forD_rng (fun j e s => ∃ mix : Int, ∃ o5 o6, e = [some (.lst (ns.map D.int)), some (.int i), some (.tup [.int 99991, .int 99971, .int 99961, .int 99929, .int 99923, .int 99907, .int 99901, .int 99881, .int 99877]), some (.int c), some (.int mix), o5, o6] ∧ s = S ∧ 0 ≤ mix ∧ mix < 2147483647) ⟨_, _, _, rfl, rfl, by omega, by omega⟩ ?_ ?_
  · rintro j e s hj ⟨mix, o5, o6, rfl, rfl, m0, m1⟩
    refine ⟨_, rfl, fun N' hnx _ _ _ _ => ?_⟩
    simp only [fnD, sNx, sSeq, sRet, sRetN, sDrop, sIf, sBrk, sCnt, sAsg, sPar, sAug, sSub, setD, sThru, asgT, asgL, itemsOf, vr, cn, dTwo, tbl, ttr, truD_bl, truD_int, truD_non, truD_tup, truD_lst, truD_str, truD_ref, tAndD, tOrD, tNotD, vOf, eIf, vNot, dNeg, fAdd_int, fAdd_tup, fSub, fMul, fDiv, fMod, fPow, fShl, fLt, fLe, fGt, fGe, fEq, fNe, fIx_tup, fIx_lst, fIx_ref, aNil, aCons, dTup, dLst, dLstR, dB, bAbs, bLen_tup, bLen_lst, bLen_ref, bMax, bMin, bInt_int, bInt_bl, dBits, dCall, iVal, iR1, iR2, List.map_cons, List.map_nil, List.length_cons, List.length_nil, List.replicate, List.cons_append, List.nil_append, List.append_nil, List.set, List.getElem?_cons_zero, List.getElem?_cons_succ, List.getElem?_nil, atI_0, atI_1, atI_2, ix20, ix21, sup_same, Nat.reduceAdd, Nat.reduceSub, Nat.succ_eq_add_one, decide_eq_true_eq, Bool.not_eq_true', decide_eq_false_iff_not, true_and, and_true, Bool.true_eq_false, Bool.false_eq_true, if_true, if_false, reduceCtorEq]
    refine cell_spec (by omega) fun c2 => ?_
    have g0 := fmod_pos (a := c2) (b := 10 ^ (18 : Int).toNat) (by decide +kernel)
    have e18 : (10 : Int) ^ (18 : Int).toNat = 1000000000000000000 := rfl
    rw [e18] at g0 ⊢
    have : ∃ p : Int, 0 < p ∧ p < 100000 ∧ atI [D.int 99991, .int 99971, .int 99961, .int 99929, .int 99923, .int 99907, .int 99901, .int 99881, .int 99877] (0 + (j : Int)) = some (.int p) := by
      have hn : ∀ (k : Nat) (p : Int), j = k → [D.int 99991, .int 99971, .int 99961, .int 99929, .int 99923, .int 99907, .int 99901, .int 99881, .int 99877][k]? = some (.int p) → atI [D.int 99991, .int 99971, .int 99961, .int 99929, .int 99923, .int 99907, .int 99901, .int 99881, .int 99877] (0 + (j : Int)) = some (.int p) := fun k p e1 e2 => by
        have : (0 + (j : Int)) = (k : Int) := by omega
        rw [this]
        exact atI_nat e2
      rcases (by omega : j = 0 ∨ j = 1 ∨ j = 2 ∨ j = 3 ∨ j = 4 ∨ j = 5 ∨ j = 6 ∨ j = 7 ∨ j = 8) with h | h | h | h | h | h | h | h | h
      · exact ⟨_, by decide, by decide, hn 0 99991 h rfl⟩
      · exact ⟨_, by decide, by decide, hn 1 99971 h rfl⟩
      · exact ⟨_, by decide, by decide, hn 2 99961 h rfl⟩
      · exact ⟨_, by decide, by decide, hn 3 99929 h rfl⟩
      · exact ⟨_, by decide, by decide, hn 4 99923 h rfl⟩
      · exact ⟨_, by decide, by decide, hn 5 99907 h rfl⟩
      · exact ⟨_, by decide, by decide, hn 6 99901 h rfl⟩
      · exact ⟨_, by decide, by decide, hn 7 99881 h rfl⟩
      · exact ⟨_, by decide, by decide, hn 8 99877 h rfl⟩
    obtain ⟨p, p0, p1, ep⟩ := this
    simp only [ep, fnD, sNx, sSeq, sRet, sRetN, sDrop, sIf, sBrk, sCnt, sAsg, sPar, sAug, sSub, setD, sThru, asgT, asgL, itemsOf, vr, cn, dTwo, tbl, ttr, truD_bl, truD_int, truD_non, truD_tup, truD_lst, truD_str, truD_ref, tAndD, tOrD, tNotD, vOf, eIf, vNot, dNeg, fAdd_int, fAdd_tup, fSub, fMul, fDiv, fMod, fPow, fShl, fLt, fLe, fGt, fGe, fEq, fNe, fIx_tup, fIx_lst, fIx_ref, aNil, aCons, dTup, dLst, dLstR, dB, bAbs, bLen_tup, bLen_lst, bLen_ref, bMax, bMin, bInt_int, bInt_bl, dBits, dCall, iVal, iR1, iR2, List.map_cons, List.map_nil, List.length_cons, List.length_nil, List.replicate, List.cons_append, List.nil_append, List.append_nil, List.set, List.getElem?_cons_zero, List.getElem?_cons_succ, List.getElem?_nil, atI_0, atI_1, atI_2, ix20, ix21, sup_same, Nat.reduceAdd, Nat.reduceSub, Nat.succ_eq_add_one, decide_eq_true_eq, Bool.not_eq_true', decide_eq_false_iff_not, true_and, and_true, Bool.true_eq_false, Bool.false_eq_true, if_true, if_false, reduceCtorEq]
    have g1 := fmod_pos (a := (c2.fmod 1000000000000000000 + 11 * (0 + (j : Int)) + 1) ^ (3 : Int).toNat) p0
    have g2 := fmod_pos (a := mix * 48271 + ((c2.fmod 1000000000000000000 + 11 * (0 + (j : Int)) + 1) ^ (3 : Int).toNat).fmod p) (b := 2147483629) (by omega)
    have hb := (sm.of (n := 61) (i := c2.fmod 1000000000000000000 + 11 * (0 + (j : Int)) + 1) (by omega)).bits
    refine ⟨by decide, by decide, by decide, (sm.of (n := 5) (by decide)).cmul (sm.of (n := 5) (by omega)) (by decide), (sm.of (n := 31) (by omega)).cmul (sm.of (n := 16) (by decide)) (by decide), by decide, by omega, by omega, by decide, hnx _ _ ⟨_, _, _, rfl, rfl, g2.1, by omega⟩⟩
  · rintro e s ⟨mix, o5, o6, rfl, rfl, m0, m1⟩
    simp only [fnD, sNx, sSeq, sRet, sRetN, sDrop, sIf, sBrk, sCnt, sAsg, sPar, sAug, sSub, setD, sThru, asgT, asgL, itemsOf, vr, cn, dTwo, tbl, ttr, truD_bl, truD_int, truD_non, truD_tup, truD_lst, truD_str, truD_ref, tAndD, tOrD, tNotD, vOf, eIf, vNot, dNeg, fAdd_int, fAdd_tup, fSub, fMul, fDiv, fMod, fPow, fShl, fLt, fLe, fGt, fGe, fEq, fNe, fIx_tup, fIx_lst, fIx_ref, aNil, aCons, dTup, dLst, dLstR, dB, bAbs, bLen_tup, bLen_lst, bLen_ref, bMax, bMin, bInt_int, bInt_bl, dBits, dCall, iVal, iR1, iR2, List.map_cons, List.map_nil, List.length_cons, List.length_nil, List.replicate, List.cons_append, List.nil_append, List.append_nil, List.set, List.getElem?_cons_zero, List.getElem?_cons_succ, List.getElem?_nil, atI_0, atI_1, atI_2, ix20, ix21, sup_same, Nat.reduceAdd, Nat.reduceSub, Nat.succ_eq_add_one, decide_eq_true_eq, Bool.not_eq_true', decide_eq_false_iff_not, true_and, and_true, Bool.true_eq_false, Bool.false_eq_true, if_true, if_false, reduceCtorEq]
    have fin : ∀ (c' : Int) (a : Addr), 0 ≤ c' → s a = none → Q (.ref a) (sup s a [.int c', .int (mix + 1)]) := fun c' a hc ha => k a _ ha ⟨_, _, sup_same, hc, by omega, by omega⟩ Fr.sup
    have e18 : (10 : Int) ^ (18 : Int).toNat = 1000000000000000000 := rfl
    rw [e18]
    refine ⟨by decide, by decide, ?_⟩
    split
    · exact ⟨by decide, fun a ha => fin 0 a (by omega) ha⟩
    · exact ⟨by decide, fun a ha => fin c a (by omega) ha⟩
end Lb

namespace Lb
open PySem PySem.Spec PyProof.Rows L2 Bl
/-- in its form -/
def Cn (x : Rt) : Prop := (x.s = 0 ∧ x.q = 0) ∨ (x.s ≠ 0 ∧ x.q ≠ 0 ∧ ¬ sqb x.q)
theorem isi_int (i : Int) : isiD "int" (.int i) = some true := by
  show L2.kitB "int" "int" = some true
  decide +kernel
theorem isi_int_b (i : Int) : isiD "bool" (.int i) = some false := by
  show L2.kitB "int" "bool" = some false
  decide +kernel
theorem isi_tup (ds : List D) : isiD "tuple" (.tup ds) = some true := by
  show L2.kitB "tuple" "tuple" = some true
  decide +kernel
end Lb

/-! The steps of the transformers as rules, for a tactic that goes on as long as one rule fits. -/
namespace Go
open PySem PySem.Spec PyProof.Rows L2 Bl Lb
section
variable {env : Ev} {l : Ev} {S S1 : Sto} {Q : DK} {E : EK} {nx bk ct : Ev → Sto → Prop} {rt : DK} {ex : Xc → Ev → Sto → Prop} {t u : TSd} {ta tb te : TEd} {tt tu : TTd} {a b : D} {P : Bool → Sto → Prop}
def asgK (S : Sto) (g : Tg) (d : D) (env : Ev) (nx : Ev → Sto → Prop) : Prop := match asgT S g d env with
  | some e => nx e S
  | none => False
def parK (S : Sto) (is : List Nat) (ds : List D) (env : Ev) (nx : Ev → Sto → Prop) : Prop := match asgL S (is.map .nm) ds env with
  | some e => nx e S
  | none => False
def ifK (b : Bool) (A B : Prop) : Prop := if b = true then A else B
def tblK (d : D) (S : Sto) (Q : Bool → Sto → Prop) : Prop := match d with | .bl b => Q b S | _ => False
def seqLst (ds : List D) (S : Sto) (Q : DK) : Prop := ds.length ≤ sizeLine ∧ Q (.lst ds) S
theorem gAll {xs : List D} (k : bAll [.lst xs] S Q) : bAll [.lst xs] S Q := k
theorem gVr {i : Nat} (k : vr i env S Q E) : vr i env S Q E := k
def wipeK (vs : List Nat) (env : Ev) (k : Ev → Prop) : Prop := k (wipeD env vs)
def unsK (i : Nat) (env : Ev) (k : Ev → Prop) : Prop := k (env.set i none)
def getLL (ks : List Str) (ds : List D) (ty tx : TEd) (env : Ev) (S : Sto) (Q : DK) (E : EK) : Prop := ds.length = ks.length ∧ ty env S (fun y S2 => tx env S2 (fun z S3 => match y with
  | .str x => Q ((lookD ks ds x).getD z) S3
  | _ => False) E) E
theorem gUns {i : Nat} {k : Ev → Prop} (h : unsK i env k) : unsK i env k := h
theorem gAsg {g : Tg} (k : asgK S g a env nx) : asgK S g a env nx := k
theorem gStar {i aft : Nat} {gs : List Tg} (k : starK i aft gs a env S nx) : starK i aft gs a env S nx := k
theorem gAug {i : Nat} {f : F2} (k : sAug i te f env S ⟨nx, rt, bk, ct, ex⟩) : sAug i te f env S ⟨nx, rt, bk, ct, ex⟩ := k
theorem gIxT {ds : List D} (k : fIx (.tup ds) b S Q) : fIx (.tup ds) b S Q := k
theorem gIxL {ds : List D} (k : fIx (.lst ds) b S Q) : fIx (.lst ds) b S Q := k
def isiK (T : String) (d : D) (S : Sto) (Q : DK) : Prop := match isiD T d with | some b => Q (.bl b) S | none => False
def enumK (d : D) (S : Sto) (Q : List D → Sto → Prop) : Prop := match seqD d with | some ds => Q (enumD ds) S | none => False
def revK (d : D) (S : Sto) (Q : List D → Sto → Prop) : Prop := match seqD d with | some ds => Q ds.reverse S | none => False
theorem revT {ds : List D} {Q : List D → Sto → Prop} (k : Q ds.reverse S) : revK (.tup ds) S Q := k
theorem revL {ds : List D} {Q : List D → Sto → Prop} (k : Q ds.reverse S) : revK (.lst ds) S Q := k
theorem zipT {ds es : List D} {Q : List D → Sto → Prop} (k : Q (zipD ds es) S) : zipK (.tup ds) (.tup es) S Q := k
theorem zipL {ds es : List D} {Q : List D → Sto → Prop} (k : Q (zipD ds es) S) : zipK (.lst ds) (.lst es) S Q := k
def iValK (d : D) (S : Sto) (Q : List D → Sto → Prop) : Prop := match d with | .tup ds => Q ds S | .lst ds => Q ds S | _ => False
theorem iValT {ds : List D} {Q : List D → Sto → Prop} (k : Q ds S) : iValK (.tup ds) S Q := k
theorem iValL {ds : List D} {Q : List D → Sto → Prop} (k : Q ds S) : iValK (.lst ds) S Q := k
theorem isiK' {T : String} {b : Bool} (h : isiD T a = some b) (k : Q (.bl b) S) : isiK T a S Q := by
  unfold isiK
  rw [h]
  exact k
theorem nx' (k : nx env S) : sNx env S ⟨nx, rt, bk, ct, ex⟩ := k
theorem seq (k : t env S ⟨fun e S1 => u e S1 ⟨nx, rt, bk, ct, ex⟩, rt, bk, ct, ex⟩) : sSeq t u env S ⟨nx, rt, bk, ct, ex⟩ := k
theorem ret (k : te env S rt fun x S1 => ex x env S1) : sRet te env S ⟨nx, rt, bk, ct, ex⟩ := k
theorem retN (k : rt .non S) : sRetN env S ⟨nx, rt, bk, ct, ex⟩ := k
theorem drop (k : te env S (fun _ S1 => nx env S1) fun x S1 => ex x env S1) : sDrop te env S ⟨nx, rt, bk, ct, ex⟩ := k
theorem brk (k : bk env S) : sBrk env S ⟨nx, rt, bk, ct, ex⟩ := k
theorem cnt (k : ct env S) : sCnt env S ⟨nx, rt, bk, ct, ex⟩ := k
theorem if' (k : tt env S (fun b S1 => ifK b (t env S1 ⟨nx, rt, bk, ct, ex⟩) (u env S1 ⟨nx, rt, bk, ct, ex⟩)) fun x S1 => ex x env S1) : sIf tt t u env S ⟨nx, rt, bk, ct, ex⟩ := k
theorem asg {g : Tg} (k : te env S (fun d S1 => asgK S1 g d env nx) fun x S1 => ex x env S1) : sAsg te g env S ⟨nx, rt, bk, ct, ex⟩ := k
theorem par {is : List Nat} {t : TAd} (k : t env S (fun ds S1 => parK S1 is ds env nx) fun x S1 => ex x env S1) : sPar is t env S ⟨nx, rt, bk, ct, ex⟩ := k
theorem raise {x : Str} (k : ex ⟨x, []⟩ env S) : sRaise x env S ⟨nx, rt, bk, ct, ex⟩ := k
theorem thru (k : t env S ⟨fun e s => u e s ⟨nx, rt, bk, ct, ex⟩, rt, bk, ct, fun _ _ _ => False⟩) : sThru t u env S ⟨nx, rt, bk, ct, ex⟩ := k
theorem tryAs {sb : Str → Option Bool} {i : Nat} {v : Addr → Str → TSd} (k : t env S (ndT sb i v ⟨nx, rt, bk, ct, ex⟩)) : sTryAs t sb i v env S ⟨nx, rt, bk, ct, ex⟩ := k
theorem for' {ti : TAd} {g : Tg} (k : ti env S (fun ds S1 => forD g t ds env S1 ⟨nx, rt, bk, ct, ex⟩) fun x S1 => ex x env S1) : sFor ti g t env S ⟨nx, rt, bk, ct, ex⟩ := k
theorem sub {to ti : TEd} (k : te env S (fun v S1 => to env S1 (fun o S2 => ti env S2 (fun i S3 => setD o i v S3 fun S4 => nx env S4) fun x S3 => ex x env S3) fun x S2 => ex x env S2) fun x S1 => ex x env S1) : sSub te to ti env S ⟨nx, rt, bk, ct, ex⟩ := k
/-! targets -/
theorem tp_cons {g : Tg} {ts : List Tg} {d : D} {ds : List D} (k : asgK S g d env fun e S => asgK S (.tp ts) (.tup ds) e nx) : asgK S (.tp (g :: ts)) (.tup (d :: ds)) env nx := by
  unfold asgK at *
  show match (match asgT S g d env with | some e => asgL S ts ds e | none => none) with | some e => nx e S | none => False
  cases h : asgT S g d env with
  | none => rw [h] at k; exact k.elim
  | some e => rw [h] at k; exact k
theorem tp_nil (k : nx env S) : asgK S (.tp []) (.tup []) env nx := k
theorem par_cons {i : Nat} {is : List Nat} {d : D} {ds : List D} (k : asgK S (.nm i) d env fun e S => parK S is ds e nx) : parK S (i :: is) (d :: ds) env nx := k
theorem par_nil (k : nx env S) : parK S [] [] env nx := k
/-! expressions -/
theorem cn' (k : Q a S) : Bl.cn a env S Q E := k
theorem two {f : F2} (k : ta env S (fun x S1 => tb env S1 (fun y S2 => f x y S2 Q) E) E) : dTwo ta tb f env S Q E := k
theorem nil {Q : List D → Sto → Prop} (k : Q [] S) : aNil env S Q E := k
theorem cons {t : TEd} {u : TAd} {Q : List D → Sto → Prop} (k : t env S (fun d S1 => u env S1 (fun ds S2 => Q (d :: ds) S2) E) E) : aCons t u env S Q E := k
def tupK (ds : List D) (S : Sto) (Q : DK) : Prop := ds.length ≤ sizeLine ∧ Q (.tup ds) S
def lstRK (ds : List D) (S : Sto) (Q : DK) : Prop := ds.length ≤ sizeLine ∧ ∀ a, S a = none → Q (.ref a) (sup S a ds)
theorem tup {t : TAd} (k : t env S (fun ds S1 => tupK ds S1 Q) E) : dTup t env S Q E := k
theorem lst {t : TAd} (k : t env S (fun ds S1 => seqLst ds S1 Q) E) : dLst t env S Q E := k
theorem lstR {t : TAd} (k : t env S (fun ds S1 => lstRK ds S1 Q) E) : dLstR t env S Q E := k
theorem tupK' {ds : List D} (h : Nat.ble ds.length 100 = true) (k : Q (.tup ds) S) : tupK ds S Q := ⟨Nat.le_trans (Nat.le_of_ble_eq_true h) (by decide), k⟩
theorem lstK' {ds : List D} (h : Nat.ble ds.length 100 = true) (k : Q (.lst ds) S) : seqLst ds S Q := ⟨Nat.le_trans (Nat.le_of_ble_eq_true h) (by decide), k⟩
theorem lstRK' {ds : List D} (h : Nat.ble ds.length 100 = true) (k : ∀ a, S a = none → Q (.ref a) (sup S a ds)) : lstRK ds S Q := ⟨Nat.le_trans (Nat.le_of_ble_eq_true h) (by decide), k⟩
theorem tbl' {P : Bool → Sto → Prop} (k : te env S (fun d S' => tblK d S' P) E) : tbl te env S P E := k
theorem tblK' {c : Bool} (k : P c S) : tblK (.bl c) S P := k
theorem ttr' (k : te env S (fun d S' => truD d S' P) E) : ttr te env S P E := k
theorem truB {c : Bool} (k : P c S) : truD (.bl c) S P := k
theorem truI {i : Int} (k : P (i != 0) S) : truD (.int i) S P := k
theorem truN (k : P false S) : truD .non S P := k
theorem and' (k : tt env S (fun c S1 => ifK c (tu env S1 P E) (P false S1)) E) : tAndD tt tu env S P E := k
theorem or' (k : tt env S (fun c S1 => ifK c (P true S1) (tu env S1 P E)) E) : tOrD tt tu env S P E := k
theorem not' (k : tt env S (fun c S1 => P (!c) S1) E) : tNotD tt env S P E := k
theorem vOf' (k : tt env S (fun c S1 => Q (.bl c) S1) E) : vOf tt env S Q E := k
theorem vNot' (k : ta env S (fun d S' => tblK d S' fun c S1 => Q (.bl (!c)) S1) E) : vNot ta env S Q E := k
theorem eIf' (k : tt env S (fun c S1 => ifK c (ta env S1 Q E) (tb env S1 Q E)) E) : eIf tt ta tb env S Q E := k
theorem ifT {A B : Prop} (k : A) : ifK true A B := k
theorem ifF {A B : Prop} (k : B) : ifK false A B := k
theorem ifN {A B : Prop} {c : Bool} (k : ifK c B A) : ifK (!c) A B := by cases c <;> exact k
theorem ifD {A B p : Prop} [Decidable p] (h : p → A) (k : ¬ p → B) : ifK (decide p) A B := by
  unfold ifK
  by_cases c : p
  · rw [if_pos (decide_eq_true c)]; exact h c
  · rw [if_neg (by simpa using c)]; exact k c
theorem ifDT {A B p : Prop} [Decidable p] (h : p) (k : A) : ifK (decide p) A B := ifD (fun _ => k) fun z => absurd h z
theorem ifDF {A B p : Prop} [Decidable p] (h : ¬ p) (k : B) : ifK (decide p) A B := ifD (fun z => absurd z h) fun _ => k
/-! operators -/
variable {i j : Int}
theorem add (k : Q (.int (i + j)) S) : fAdd (.int i) (.int j) S Q := k
theorem addT {ds es : List D} (h : Nat.ble (ds ++ es).length 1000 = true) (k : Q (.tup (ds ++ es)) S) : fAdd (.tup ds) (.tup es) S Q := ⟨by have := Nat.le_of_ble_eq_true h; rw [List.length_append] at this; exact Nat.le_trans this (by decide), k⟩
theorem sub' (k : Q (.int (i - j)) S) : fSub (.int i) (.int j) S Q := k
theorem mul (h : CMul' i j) (k : Q (.int (i * j)) S) : fMul (.int i) (.int j) S Q := ⟨h, k⟩
theorem div (h : CDiv' j) (k : Q (.int (i.fdiv j)) S) : fDiv (.int i) (.int j) S Q := ⟨h, k⟩
theorem mod (h : j ≠ 0) (k : Q (.int (i.fmod j)) S) : fMod (.int i) (.int j) S Q := ⟨h, k⟩
theorem lt (k : Q (.bl (decide (i < j))) S) : fLt (.int i) (.int j) S Q := k
theorem le (k : Q (.bl (decide (i ≤ j))) S) : fLe (.int i) (.int j) S Q := k
theorem gt (k : Q (.bl (decide (j < i))) S) : fGt (.int i) (.int j) S Q := k
theorem ge (k : Q (.bl (decide (j ≤ i))) S) : fGe (.int i) (.int j) S Q := k
theorem eqI (k : Q (.bl (decide (i = j))) S) : fEq (.int i) (.int j) S Q := ⟨ok_int _, ok_int _, by rw [Lb.eq_int]; exact k⟩
theorem neI (k : Q (.bl (!decide (i = j))) S) : fNe (.int i) (.int j) S Q := ⟨ok_int _, ok_int _, by rw [Lb.eq_int]; exact k⟩
def negK (d : D) (S : Sto) (Q : DK) : Prop := match d with | .int i => Q (.int (-i)) S | _ => False
theorem neg (k : ta env S (fun d S' => negK d S' Q) E) : dNeg ta env S Q E := k
theorem neg' (k : Q (.int (-i)) S) : negK (.int i) S Q := k
theorem pow2 {n : Nat} (h : sm n i) (hn : n ≤ 1000000) (k : Q (.int (i * i)) S) : fPow (.int i) (.int 2) S Q := by
  have := h.bits
  refine ⟨by decide, by omega, ?_⟩
  have e : i ^ (2 : Int).toNat = i * i := by
    show i ^ 2 = i * i
    rw [Int.pow_succ, Int.pow_succ, Int.pow_zero, Int.one_mul]
  rw [e]
  exact k
theorem is' (k : Q (.bl (isN a)) S) : fIs a .non S Q := k
theorem isNot' (k : Q (.bl (!isN a)) S) : fIsNot a .non S Q := k
theorem chain {tc : TEd} {f g : F2} (k : ta env S (fun x S1 => tb env S1 (fun y S2 => f x y S2 (fun d S3 => match d with
  | .bl true => tc env S3 (fun z S4 => g y z S4 Q) E
  | .bl false => Q (.bl false) S3
  | _ => False)) E) E) : dChain ta tb tc f g env S Q E := k
theorem dB' {g : GB} {t : TAd} (k : t env S (fun ds S1 => g ds S1 Q) E) : dB g t env S Q E := k
theorem abs' (k : Q (.int (if i < 0 then -i else i)) S) : bAbs [.int i] S Q := k
theorem lenT {ds : List D} (k : Q (.int ds.length) S) : bLen [.tup ds] S Q := k
theorem lenL {ds : List D} (k : Q (.int ds.length) S) : bLen [.lst ds] S Q := k
theorem lenR {r : Addr} {ds : List D} (h : S r = some ds) (k : Q (.int ds.length) S) : bLen [.ref r] S Q := by
  unfold bLen
  dsimp only
  rw [h]
  exact k
theorem max' (k : Q (.int (if j > i then j else i)) S) : bMax [.int i, .int j] S Q := k
theorem min' (k : Q (.int (if j < i then j else i)) S) : bMin [.int i, .int j] S Q := k
theorem intI (k : Q (.int i) S) : bInt [.int i] S Q := k
theorem intB {c : Bool} (k : Q (.int (if c then 1 else 0)) S) : bInt [.bl c] S Q := k
theorem tupL {ds : List D} (k : Q (.tup ds) S) : bTup [.lst ds] S Q := k
theorem tupT {ds : List D} (k : Q (.tup ds) S) : bTup [.tup ds] S Q := k
theorem isi {T : String} (k : ta env S (fun d S1 => isiK T d S1 Q) E) : dIsi T ta env S Q E := k
def callK (m : TFd) (np nk : Nat) (ds zs : List D) (gs : List D) (S : Sto) (Q : DK) (E : EK) : Prop := ds.length = np ∧ zs.length = nk ∧ m gs S Q E
theorem call {m : TFd} {np nk : Nat} {gD : List D → List D → List D} {tk : TAd} {t : TAd} (k : t env S (fun ds S1 => tk env S1 (fun zs S2 => callK m np nk ds zs (gD ds zs) S2 Q E) E) E) : dCall m np nk gD t tk env S Q E := k
theorem callK' {m : TFd} {np nk : Nat} {ds zs gs : List D} (h : ds.length = np) (h2 : zs.length = nk) (k : m gs S Q E) : callK m np nk ds zs gs S Q E := ⟨h, h2, k⟩
/-! items -/
theorem ixT {ds : List D} {i : Int} {d : D} (h : atI ds i = some d) (k : Q d S) : fIx (.tup ds) (.int i) S Q := by
  unfold fIx
  dsimp only
  rw [h]
  exact k
theorem ixL {ds : List D} {i : Int} {d : D} (h : atI ds i = some d) (k : Q d S) : fIx (.lst ds) (.int i) S Q := by
  unfold fIx
  dsimp only
  rw [h]
  exact k
theorem ixR {r : Addr} {ds : List D} {i : Int} {d : D} (e : S r = some ds) (h : atI ds i = some d) (k : Q d S) : fIx (.ref r) (.int i) S Q := by
  unfold fIx
  dsimp only
  rw [e]
  dsimp only
  rw [h]
  exact k
def r1K (ds : List D) (S : Sto) (Q : List D → Sto → Prop) : Prop := match ds with
  | [.int j] => -(2 ^ 62) ≤ j ∧ j < 2 ^ 62 ∧ Q (rngD 0 j.toNat) S
  | _ => False
def r2K (ds : List D) (S : Sto) (Q : List D → Sto → Prop) : Prop := match ds with
  | [.int i, .int j] => (-(2 ^ 62) ≤ i ∧ i < 2 ^ 62 ∧ -(2 ^ 62) ≤ j ∧ j < 2 ^ 62) ∧ Q (rngD i (j - i).toNat) S
  | _ => False
theorem star {te : TEd} {i aft : Nat} {gs : List Tg} (k : te env S (fun d S1 => starK i aft gs d env S1 nx) fun x S1 => ex x env S1) : sStar te i aft gs env S ⟨nx, rt, bk, ct, ex⟩ := k
def asgLK (S : Sto) (gs : List Tg) (ds : List D) (env : Ev) (nx : Ev → Sto → Prop) : Prop := match asgL S gs ds env with
  | some e => nx e S
  | none => False
theorem l_cons {g : Tg} {ts : List Tg} {d : D} {ds : List D} (k : asgK S g d env fun e S => asgLK S ts ds e nx) : asgLK S (g :: ts) (d :: ds) env nx := by
  unfold asgK at k
  unfold asgLK at *
  show match (match asgT S g d env with | some e => asgL S ts ds e | none => none) with | some e => nx e S | none => False
  cases h : asgT S g d env with
  | none => rw [h] at k; exact k.elim
  | some e => rw [h] at k; exact k
theorem l_nil (k : nx env S) : asgLK S [] [] env nx := k
theorem starG {i aft : Nat} {gs : List Tg} {d : D} {ds es : List D} (h : itemsOf S d = some ds) (hl : i + aft ≤ ds.length) (e : starD i aft ds = es) (k : asgLK S gs es env nx) : starK i aft gs d env S nx := by
  unfold starK
  rw [h]
  refine ⟨hl, ?_⟩
  rw [e]
  exact k
theorem enum' {Q : List D → Sto → Prop} (k : te env S (fun d S1 => enumK d S1 Q) E) : iEnumD te env S Q E := k
theorem rev' {Q : List D → Sto → Prop} (k : te env S (fun d S1 => revK d S1 Q) E) : iRevD te env S Q E := k
theorem zip' {t u : TEd} {Q : List D → Sto → Prop} (k : t env S (fun x S1 => u env S1 (fun y S2 => zipK x y S2 Q) E) E) : iZipD t u env S Q E := k
theorem eqS {x y : Str} {b : Bool} (h : okD (.str x)) (h2 : okD (.str y)) (e : eqD (.str x) (.str y) = b) (k : Q (.bl b) S) : fEq (.str x) (.str y) S Q := ⟨h, h2, by rw [e]; exact k⟩
theorem neS {x y : Str} {b : Bool} (h : okD (.str x)) (h2 : okD (.str y)) (e : (!eqD (.str x) (.str y)) = b) (k : Q (.bl b) S) : fNe (.str x) (.str y) S Q := ⟨h, h2, by rw [e]; exact k⟩
theorem gEqS {x y : Str} (k : fEq (.str x) (.str y) S Q) : fEq (.str x) (.str y) S Q := k
theorem gNeS {x y : Str} (k : fNe (.str x) (.str y) S Q) : fNe (.str x) (.str y) S Q := k
theorem wipe_nil {k : Ev → Prop} (h : k env) : wipeK [] env k := h
theorem wipe_cons {v : Nat} {vs : List Nat} {k : Ev → Prop} (h : wipeK vs env fun e => unsK v e k) : wipeK (v :: vs) env k := h
def lcK (g : Tg) (tt : TTd) (te : TEd) (vs : List Nat) (env : Ev) (ds : List D) (S : Sto) (Q : List D → Sto → Prop) : Prop := ds.length < sizeLine ∧ lcGo g tt te (wipeD env vs) ds S Q
theorem lc {ti : TAd} {g : Tg} {vs : List Nat} (k : ti env S (fun ds S1 => lcK g tt te vs env ds S1 fun ys S2 => Q (.lst ys) S2) E) : dLc ti g tt te vs env S Q E := k
theorem lcR {ti : TAd} {g : Tg} {vs : List Nat} (k : ti env S (fun ds S1 => lcK g tt te vs env ds S1 fun ys S2 => ∀ a, S2 a = none → Q (.ref a) (sup S2 a ys)) E) : dLcR ti g tt te vs env S Q E := k
theorem lc' {g : Tg} {vs : List Nat} {ds : List D} {Q : List D → Sto → Prop} (h : ds.length < sizeLine) (k : wipeK vs env fun e => lcGo g tt te e ds S Q) : lcK g tt te vs env ds S Q := ⟨h, k⟩
theorem lcL {g : Tg} {vs : List Nat} {ds : List D} {Q : List D → Sto → Prop} (h : Nat.ble ds.length 1000 = true) (k : wipeK vs env fun e => lcGo g tt te e ds S Q) : lcK g tt te vs env ds S Q := ⟨Nat.lt_of_le_of_lt (Nat.le_of_ble_eq_true h) (by decide), k⟩
theorem lg_nil {g : Tg} {Q : List D → Sto → Prop} (k : Q [] S) : lcGo g tt te env [] S Q := k
theorem lg_cons {g : Tg} {d : D} {ds : List D} {Q : List D → Sto → Prop} (k : asgK S g d env fun e1 S1 => tt e1 S1 (fun b S2 => ifK b (te e1 S2 (fun y S3 => lcGo g tt te env ds S3 fun ys S4 => Q (y :: ys) S4) EF) (lcGo g tt te env ds S2 Q)) EF) : lcGo g tt te env (d :: ds) S Q := by
  unfold asgK at k
  unfold lcGo
  exact k
theorem yes {P : Bool → Sto → Prop} (k : P true S) : tYesD env S P E := k
theorem for_nil {g : Tg} (k : nx env S) : forD g t [] env S ⟨nx, rt, bk, ct, ex⟩ := k
theorem for_cons {g : Tg} {d : D} {ds : List D} (k : asgK S g d env fun e1 S1 => t e1 S1 ⟨fun e s => forD g t ds e s ⟨nx, rt, bk, ct, ex⟩, rt, nx, fun e s => forD g t ds e s ⟨nx, rt, bk, ct, ex⟩, ex⟩) : forD g t (d :: ds) env S ⟨nx, rt, bk, ct, ex⟩ := by
  unfold asgK at k
  unfold forD
  exact k
theorem allB {xs : List D} {bs : List Bool} (h : blsOf xs = some bs) (k : Q (.bl (bs.all id)) S) : bAll [.lst xs] S Q := by
  unfold bAll
  dsimp only
  rw [h]
  exact k
theorem sl {t : TEd} {lo hi : TOd} (k : t env S (fun x S1 => lo env S1 (fun l S2 => hi env S2 (fun u S3 => fSl x l u S3 Q) E) E) E) : dSl t lo hi env S Q E := k
theorem oN {Q : Option Int → Sto → Prop} (k : Q none S) : oNone env S Q E := k
def osK (d : D) (S : Sto) (Q : Option Int → Sto → Prop) : Prop := match d with | .int i => Q (some i) S | _ => False
theorem oS {t : TEd} {Q : Option Int → Sto → Prop} (k : t env S (fun d S1 => osK d S1 Q) E) : oSome t env S Q E := k
theorem osK' {Q : Option Int → Sto → Prop} (k : Q (some i) S) : osK (.int i) S Q := k
theorem slT {ds es : List D} {lo hi : Option Int} (e : Bl.cutD ds lo hi = es) (k : Q (.tup es) S) : fSl (.tup ds) lo hi S Q := by subst e; exact k
theorem slL {ds es : List D} {lo hi : Option Int} (e : Bl.cutD ds lo hi = es) (k : Q (.lst es) S) : fSl (.lst ds) lo hi S Q := by subst e; exact k
def getLK (ks : List Str) (ds : List D) (y z : D) (S : Sto) (Q : DK) : Prop := match y with
  | .str x => Q ((lookD ks ds x).getD z) S
  | _ => False
theorem getL {ks : List Str} {ta : TAd} {ty tx : TEd} (k : ta env S (fun ds S1 => getLL ks ds ty tx env S1 Q E) E) : dGetL ks ta ty tx env S Q E := k
theorem getLL' {ks : List Str} {ds : List D} {ty tx : TEd} (h : ds.length = ks.length) (k : ty env S (fun y S2 => tx env S2 (fun z S3 => getLK ks ds y z S3 Q) E) E) : getLL ks ds ty tx env S Q E := ⟨h, k⟩
theorem iadd {i j : Int} (k : Q (.int (i + j)) S) : fIadd (.int i) (.int j) S Q := k
theorem while' {c : TTd} {b : TSd} (Wi : Nat → Ev → Sto → Prop) (m0 : Nat) (h0 : Wi m0 env S) (h : ∀ m env S, Wi m env S → c env S (fun k S1 => ifK k (b env S1 ⟨fun e s => ∃ m', m' < m ∧ Wi m' e s, rt, nx, fun e s => ∃ m', m' < m ∧ Wi m' e s, ex⟩) (nx env S1)) fun x S1 => ex x env S1) : sWhile c b env S ⟨nx, rt, bk, ct, ex⟩ := ⟨Wi, ⟨m0, h0⟩, h⟩
theorem r1 {t : TAd} {Q : List D → Sto → Prop} (k : t env S (fun ds S1 => r1K ds S1 Q) E) : iR1 t env S Q E := k
theorem r1' {j : Int} {n : Nat} {Q : List D → Sto → Prop} (e : j = n) (h : n < 2 ^ 60) (k : Q (rngD 0 n) S) : r1K [.int j] S Q := by
  subst e
  exact ⟨by omega, by omega, by rw [Int.toNat_natCast]; exact k⟩
theorem r2 {t : TAd} {Q : List D → Sto → Prop} (k : t env S (fun ds S1 => r2K ds S1 Q) E) : iR2 t env S Q E := k
theorem cells {α : Type} {c : Int} {xs : List α} (h : 0 ≤ c) : 1 + (if ((xs.length : Nat) : Int) < c then ((xs.length : Nat) : Int) else c) = ((1 + min c.toNat xs.length : Nat) : Int) := by
  split <;> omega
theorem iVal' {Q : List D → Sto → Prop} (k : te env S (fun d S1 => iValK d S1 Q) E) : iVal te env S Q E := k
end
theorem vr0 {l : Ev} {d : D} {S : Sto} {Q : DK} {E : EK} (k : Q d S) : vr 0 (some d :: l) S Q E := k
theorem set0 {y : Option D} {l : Ev} {d : D} {S : Sto} {nx : Ev → Sto → Prop} (k : nx (some d :: l) S) : asgK S (.nm 0) d (y :: l) nx := k
theorem uns0 {y : Option D} {l : Ev} {k : Ev → Prop} (h : k (none :: l)) : unsK 0 (y :: l) k := h
theorem aug0 {l : Ev} {d : D} {S : Sto} {te : TEd} {f : F2} {nx bk ct : Ev → Sto → Prop} {rt : DK} {ex : Xc → Ev → Sto → Prop} (k : te (some d :: l) S (fun y S1 => f d y S1 fun z S2 => nx (some z :: l) S2) fun x S1 => ex x (some d :: l) S1) : sAug 0 te f (some d :: l) S ⟨nx, rt, bk, ct, ex⟩ := k
theorem vr1 {x0 : Option D} {l : Ev} {d : D} {S : Sto} {Q : DK} {E : EK} (k : Q d S) : vr 1 (x0 :: some d :: l) S Q E := k
theorem set1 {x0 : Option D} {y : Option D} {l : Ev} {d : D} {S : Sto} {nx : Ev → Sto → Prop} (k : nx (x0 :: some d :: l) S) : asgK S (.nm 1) d (x0 :: y :: l) nx := k
theorem uns1 {x0 : Option D} {y : Option D} {l : Ev} {k : Ev → Prop} (h : k (x0 :: none :: l)) : unsK 1 (x0 :: y :: l) k := h
theorem aug1 {x0 : Option D} {l : Ev} {d : D} {S : Sto} {te : TEd} {f : F2} {nx bk ct : Ev → Sto → Prop} {rt : DK} {ex : Xc → Ev → Sto → Prop} (k : te (x0 :: some d :: l) S (fun y S1 => f d y S1 fun z S2 => nx (x0 :: some z :: l) S2) fun x S1 => ex x (x0 :: some d :: l) S1) : sAug 1 te f (x0 :: some d :: l) S ⟨nx, rt, bk, ct, ex⟩ := k
theorem vr2 {x0 x1 : Option D} {l : Ev} {d : D} {S : Sto} {Q : DK} {E : EK} (k : Q d S) : vr 2 (x0 :: x1 :: some d :: l) S Q E := k
theorem set2 {x0 x1 : Option D} {y : Option D} {l : Ev} {d : D} {S : Sto} {nx : Ev → Sto → Prop} (k : nx (x0 :: x1 :: some d :: l) S) : asgK S (.nm 2) d (x0 :: x1 :: y :: l) nx := k
theorem uns2 {x0 x1 : Option D} {y : Option D} {l : Ev} {k : Ev → Prop} (h : k (x0 :: x1 :: none :: l)) : unsK 2 (x0 :: x1 :: y :: l) k := h
theorem aug2 {x0 x1 : Option D} {l : Ev} {d : D} {S : Sto} {te : TEd} {f : F2} {nx bk ct : Ev → Sto → Prop} {rt : DK} {ex : Xc → Ev → Sto → Prop} (k : te (x0 :: x1 :: some d :: l) S (fun y S1 => f d y S1 fun z S2 => nx (x0 :: x1 :: some z :: l) S2) fun x S1 => ex x (x0 :: x1 :: some d :: l) S1) : sAug 2 te f (x0 :: x1 :: some d :: l) S ⟨nx, rt, bk, ct, ex⟩ := k
theorem vr3 {x0 x1 x2 : Option D} {l : Ev} {d : D} {S : Sto} {Q : DK} {E : EK} (k : Q d S) : vr 3 (x0 :: x1 :: x2 :: some d :: l) S Q E := k
theorem set3 {x0 x1 x2 : Option D} {y : Option D} {l : Ev} {d : D} {S : Sto} {nx : Ev → Sto → Prop} (k : nx (x0 :: x1 :: x2 :: some d :: l) S) : asgK S (.nm 3) d (x0 :: x1 :: x2 :: y :: l) nx := k
theorem uns3 {x0 x1 x2 : Option D} {y : Option D} {l : Ev} {k : Ev → Prop} (h : k (x0 :: x1 :: x2 :: none :: l)) : unsK 3 (x0 :: x1 :: x2 :: y :: l) k := h
theorem aug3 {x0 x1 x2 : Option D} {l : Ev} {d : D} {S : Sto} {te : TEd} {f : F2} {nx bk ct : Ev → Sto → Prop} {rt : DK} {ex : Xc → Ev → Sto → Prop} (k : te (x0 :: x1 :: x2 :: some d :: l) S (fun y S1 => f d y S1 fun z S2 => nx (x0 :: x1 :: x2 :: some z :: l) S2) fun x S1 => ex x (x0 :: x1 :: x2 :: some d :: l) S1) : sAug 3 te f (x0 :: x1 :: x2 :: some d :: l) S ⟨nx, rt, bk, ct, ex⟩ := k
theorem vr4 {x0 x1 x2 x3 : Option D} {l : Ev} {d : D} {S : Sto} {Q : DK} {E : EK} (k : Q d S) : vr 4 (x0 :: x1 :: x2 :: x3 :: some d :: l) S Q E := k
theorem set4 {x0 x1 x2 x3 : Option D} {y : Option D} {l : Ev} {d : D} {S : Sto} {nx : Ev → Sto → Prop} (k : nx (x0 :: x1 :: x2 :: x3 :: some d :: l) S) : asgK S (.nm 4) d (x0 :: x1 :: x2 :: x3 :: y :: l) nx := k
theorem uns4 {x0 x1 x2 x3 : Option D} {y : Option D} {l : Ev} {k : Ev → Prop} (h : k (x0 :: x1 :: x2 :: x3 :: none :: l)) : unsK 4 (x0 :: x1 :: x2 :: x3 :: y :: l) k := h
theorem aug4 {x0 x1 x2 x3 : Option D} {l : Ev} {d : D} {S : Sto} {te : TEd} {f : F2} {nx bk ct : Ev → Sto → Prop} {rt : DK} {ex : Xc → Ev → Sto → Prop} (k : te (x0 :: x1 :: x2 :: x3 :: some d :: l) S (fun y S1 => f d y S1 fun z S2 => nx (x0 :: x1 :: x2 :: x3 :: some z :: l) S2) fun x S1 => ex x (x0 :: x1 :: x2 :: x3 :: some d :: l) S1) : sAug 4 te f (x0 :: x1 :: x2 :: x3 :: some d :: l) S ⟨nx, rt, bk, ct, ex⟩ := k
theorem vr5 {x0 x1 x2 x3 x4 : Option D} {l : Ev} {d : D} {S : Sto} {Q : DK} {E : EK} (k : Q d S) : vr 5 (x0 :: x1 :: x2 :: x3 :: x4 :: some d :: l) S Q E := k
theorem set5 {x0 x1 x2 x3 x4 : Option D} {y : Option D} {l : Ev} {d : D} {S : Sto} {nx : Ev → Sto → Prop} (k : nx (x0 :: x1 :: x2 :: x3 :: x4 :: some d :: l) S) : asgK S (.nm 5) d (x0 :: x1 :: x2 :: x3 :: x4 :: y :: l) nx := k
theorem uns5 {x0 x1 x2 x3 x4 : Option D} {y : Option D} {l : Ev} {k : Ev → Prop} (h : k (x0 :: x1 :: x2 :: x3 :: x4 :: none :: l)) : unsK 5 (x0 :: x1 :: x2 :: x3 :: x4 :: y :: l) k := h
theorem aug5 {x0 x1 x2 x3 x4 : Option D} {l : Ev} {d : D} {S : Sto} {te : TEd} {f : F2} {nx bk ct : Ev → Sto → Prop} {rt : DK} {ex : Xc → Ev → Sto → Prop} (k : te (x0 :: x1 :: x2 :: x3 :: x4 :: some d :: l) S (fun y S1 => f d y S1 fun z S2 => nx (x0 :: x1 :: x2 :: x3 :: x4 :: some z :: l) S2) fun x S1 => ex x (x0 :: x1 :: x2 :: x3 :: x4 :: some d :: l) S1) : sAug 5 te f (x0 :: x1 :: x2 :: x3 :: x4 :: some d :: l) S ⟨nx, rt, bk, ct, ex⟩ := k
theorem vr6 {x0 x1 x2 x3 x4 x5 : Option D} {l : Ev} {d : D} {S : Sto} {Q : DK} {E : EK} (k : Q d S) : vr 6 (x0 :: x1 :: x2 :: x3 :: x4 :: x5 :: some d :: l) S Q E := k
theorem set6 {x0 x1 x2 x3 x4 x5 : Option D} {y : Option D} {l : Ev} {d : D} {S : Sto} {nx : Ev → Sto → Prop} (k : nx (x0 :: x1 :: x2 :: x3 :: x4 :: x5 :: some d :: l) S) : asgK S (.nm 6) d (x0 :: x1 :: x2 :: x3 :: x4 :: x5 :: y :: l) nx := k
theorem uns6 {x0 x1 x2 x3 x4 x5 : Option D} {y : Option D} {l : Ev} {k : Ev → Prop} (h : k (x0 :: x1 :: x2 :: x3 :: x4 :: x5 :: none :: l)) : unsK 6 (x0 :: x1 :: x2 :: x3 :: x4 :: x5 :: y :: l) k := h
theorem aug6 {x0 x1 x2 x3 x4 x5 : Option D} {l : Ev} {d : D} {S : Sto} {te : TEd} {f : F2} {nx bk ct : Ev → Sto → Prop} {rt : DK} {ex : Xc → Ev → Sto → Prop} (k : te (x0 :: x1 :: x2 :: x3 :: x4 :: x5 :: some d :: l) S (fun y S1 => f d y S1 fun z S2 => nx (x0 :: x1 :: x2 :: x3 :: x4 :: x5 :: some z :: l) S2) fun x S1 => ex x (x0 :: x1 :: x2 :: x3 :: x4 :: x5 :: some d :: l) S1) : sAug 6 te f (x0 :: x1 :: x2 :: x3 :: x4 :: x5 :: some d :: l) S ⟨nx, rt, bk, ct, ex⟩ := k
theorem vr7 {x0 x1 x2 x3 x4 x5 x6 : Option D} {l : Ev} {d : D} {S : Sto} {Q : DK} {E : EK} (k : Q d S) : vr 7 (x0 :: x1 :: x2 :: x3 :: x4 :: x5 :: x6 :: some d :: l) S Q E := k
theorem set7 {x0 x1 x2 x3 x4 x5 x6 : Option D} {y : Option D} {l : Ev} {d : D} {S : Sto} {nx : Ev → Sto → Prop} (k : nx (x0 :: x1 :: x2 :: x3 :: x4 :: x5 :: x6 :: some d :: l) S) : asgK S (.nm 7) d (x0 :: x1 :: x2 :: x3 :: x4 :: x5 :: x6 :: y :: l) nx := k
theorem uns7 {x0 x1 x2 x3 x4 x5 x6 : Option D} {y : Option D} {l : Ev} {k : Ev → Prop} (h : k (x0 :: x1 :: x2 :: x3 :: x4 :: x5 :: x6 :: none :: l)) : unsK 7 (x0 :: x1 :: x2 :: x3 :: x4 :: x5 :: x6 :: y :: l) k := h
theorem aug7 {x0 x1 x2 x3 x4 x5 x6 : Option D} {l : Ev} {d : D} {S : Sto} {te : TEd} {f : F2} {nx bk ct : Ev → Sto → Prop} {rt : DK} {ex : Xc → Ev → Sto → Prop} (k : te (x0 :: x1 :: x2 :: x3 :: x4 :: x5 :: x6 :: some d :: l) S (fun y S1 => f d y S1 fun z S2 => nx (x0 :: x1 :: x2 :: x3 :: x4 :: x5 :: x6 :: some z :: l) S2) fun x S1 => ex x (x0 :: x1 :: x2 :: x3 :: x4 :: x5 :: x6 :: some d :: l) S1) : sAug 7 te f (x0 :: x1 :: x2 :: x3 :: x4 :: x5 :: x6 :: some d :: l) S ⟨nx, rt, bk, ct, ex⟩ := k
theorem vr8 {x0 x1 x2 x3 x4 x5 x6 x7 : Option D} {l : Ev} {d : D} {S : Sto} {Q : DK} {E : EK} (k : Q d S) : vr 8 (x0 :: x1 :: x2 :: x3 :: x4 :: x5 :: x6 :: x7 :: some d :: l) S Q E := k
theorem set8 {x0 x1 x2 x3 x4 x5 x6 x7 : Option D} {y : Option D} {l : Ev} {d : D} {S : Sto} {nx : Ev → Sto → Prop} (k : nx (x0 :: x1 :: x2 :: x3 :: x4 :: x5 :: x6 :: x7 :: some d :: l) S) : asgK S (.nm 8) d (x0 :: x1 :: x2 :: x3 :: x4 :: x5 :: x6 :: x7 :: y :: l) nx := k
theorem uns8 {x0 x1 x2 x3 x4 x5 x6 x7 : Option D} {y : Option D} {l : Ev} {k : Ev → Prop} (h : k (x0 :: x1 :: x2 :: x3 :: x4 :: x5 :: x6 :: x7 :: none :: l)) : unsK 8 (x0 :: x1 :: x2 :: x3 :: x4 :: x5 :: x6 :: x7 :: y :: l) k := h
theorem aug8 {x0 x1 x2 x3 x4 x5 x6 x7 : Option D} {l : Ev} {d : D} {S : Sto} {te : TEd} {f : F2} {nx bk ct : Ev → Sto → Prop} {rt : DK} {ex : Xc → Ev → Sto → Prop} (k : te (x0 :: x1 :: x2 :: x3 :: x4 :: x5 :: x6 :: x7 :: some d :: l) S (fun y S1 => f d y S1 fun z S2 => nx (x0 :: x1 :: x2 :: x3 :: x4 :: x5 :: x6 :: x7 :: some z :: l) S2) fun x S1 => ex x (x0 :: x1 :: x2 :: x3 :: x4 :: x5 :: x6 :: x7 :: some d :: l) S1) : sAug 8 te f (x0 :: x1 :: x2 :: x3 :: x4 :: x5 :: x6 :: x7 :: some d :: l) S ⟨nx, rt, bk, ct, ex⟩ := k
theorem vr9 {x0 x1 x2 x3 x4 x5 x6 x7 x8 : Option D} {l : Ev} {d : D} {S : Sto} {Q : DK} {E : EK} (k : Q d S) : vr 9 (x0 :: x1 :: x2 :: x3 :: x4 :: x5 :: x6 :: x7 :: x8 :: some d :: l) S Q E := k
theorem set9 {x0 x1 x2 x3 x4 x5 x6 x7 x8 : Option D} {y : Option D} {l : Ev} {d : D} {S : Sto} {nx : Ev → Sto → Prop} (k : nx (x0 :: x1 :: x2 :: x3 :: x4 :: x5 :: x6 :: x7 :: x8 :: some d :: l) S) : asgK S (.nm 9) d (x0 :: x1 :: x2 :: x3 :: x4 :: x5 :: x6 :: x7 :: x8 :: y :: l) nx := k
theorem uns9 {x0 x1 x2 x3 x4 x5 x6 x7 x8 : Option D} {y : Option D} {l : Ev} {k : Ev → Prop} (h : k (x0 :: x1 :: x2 :: x3 :: x4 :: x5 :: x6 :: x7 :: x8 :: none :: l)) : unsK 9 (x0 :: x1 :: x2 :: x3 :: x4 :: x5 :: x6 :: x7 :: x8 :: y :: l) k := h
theorem aug9 {x0 x1 x2 x3 x4 x5 x6 x7 x8 : Option D} {l : Ev} {d : D} {S : Sto} {te : TEd} {f : F2} {nx bk ct : Ev → Sto → Prop} {rt : DK} {ex : Xc → Ev → Sto → Prop} (k : te (x0 :: x1 :: x2 :: x3 :: x4 :: x5 :: x6 :: x7 :: x8 :: some d :: l) S (fun y S1 => f d y S1 fun z S2 => nx (x0 :: x1 :: x2 :: x3 :: x4 :: x5 :: x6 :: x7 :: x8 :: some z :: l) S2) fun x S1 => ex x (x0 :: x1 :: x2 :: x3 :: x4 :: x5 :: x6 :: x7 :: x8 :: some d :: l) S1) : sAug 9 te f (x0 :: x1 :: x2 :: x3 :: x4 :: x5 :: x6 :: x7 :: x8 :: some d :: l) S ⟨nx, rt, bk, ct, ex⟩ := k
theorem vr10 {x0 x1 x2 x3 x4 x5 x6 x7 x8 x9 : Option D} {l : Ev} {d : D} {S : Sto} {Q : DK} {E : EK} (k : Q d S) : vr 10 (x0 :: x1 :: x2 :: x3 :: x4 :: x5 :: x6 :: x7 :: x8 :: x9 :: some d :: l) S Q E := k
theorem set10 {x0 x1 x2 x3 x4 x5 x6 x7 x8 x9 : Option D} {y : Option D} {l : Ev} {d : D} {S : Sto} {nx : Ev → Sto → Prop} (k : nx (x0 :: x1 :: x2 :: x3 :: x4 :: x5 :: x6 :: x7 :: x8 :: x9 :: some d :: l) S) : asgK S (.nm 10) d (x0 :: x1 :: x2 :: x3 :: x4 :: x5 :: x6 :: x7 :: x8 :: x9 :: y :: l) nx := k
theorem uns10 {x0 x1 x2 x3 x4 x5 x6 x7 x8 x9 : Option D} {y : Option D} {l : Ev} {k : Ev → Prop} (h : k (x0 :: x1 :: x2 :: x3 :: x4 :: x5 :: x6 :: x7 :: x8 :: x9 :: none :: l)) : unsK 10 (x0 :: x1 :: x2 :: x3 :: x4 :: x5 :: x6 :: x7 :: x8 :: x9 :: y :: l) k := h
theorem aug10 {x0 x1 x2 x3 x4 x5 x6 x7 x8 x9 : Option D} {l : Ev} {d : D} {S : Sto} {te : TEd} {f : F2} {nx bk ct : Ev → Sto → Prop} {rt : DK} {ex : Xc → Ev → Sto → Prop} (k : te (x0 :: x1 :: x2 :: x3 :: x4 :: x5 :: x6 :: x7 :: x8 :: x9 :: some d :: l) S (fun y S1 => f d y S1 fun z S2 => nx (x0 :: x1 :: x2 :: x3 :: x4 :: x5 :: x6 :: x7 :: x8 :: x9 :: some z :: l) S2) fun x S1 => ex x (x0 :: x1 :: x2 :: x3 :: x4 :: x5 :: x6 :: x7 :: x8 :: x9 :: some d :: l) S1) : sAug 10 te f (x0 :: x1 :: x2 :: x3 :: x4 :: x5 :: x6 :: x7 :: x8 :: x9 :: some d :: l) S ⟨nx, rt, bk, ct, ex⟩ := k
theorem vr11 {x0 x1 x2 x3 x4 x5 x6 x7 x8 x9 x10 : Option D} {l : Ev} {d : D} {S : Sto} {Q : DK} {E : EK} (k : Q d S) : vr 11 (x0 :: x1 :: x2 :: x3 :: x4 :: x5 :: x6 :: x7 :: x8 :: x9 :: x10 :: some d :: l) S Q E := k
theorem set11 {x0 x1 x2 x3 x4 x5 x6 x7 x8 x9 x10 : Option D} {y : Option D} {l : Ev} {d : D} {S : Sto} {nx : Ev → Sto → Prop} (k : nx (x0 :: x1 :: x2 :: x3 :: x4 :: x5 :: x6 :: x7 :: x8 :: x9 :: x10 :: some d :: l) S) : asgK S (.nm 11) d (x0 :: x1 :: x2 :: x3 :: x4 :: x5 :: x6 :: x7 :: x8 :: x9 :: x10 :: y :: l) nx := k
theorem uns11 {x0 x1 x2 x3 x4 x5 x6 x7 x8 x9 x10 : Option D} {y : Option D} {l : Ev} {k : Ev → Prop} (h : k (x0 :: x1 :: x2 :: x3 :: x4 :: x5 :: x6 :: x7 :: x8 :: x9 :: x10 :: none :: l)) : unsK 11 (x0 :: x1 :: x2 :: x3 :: x4 :: x5 :: x6 :: x7 :: x8 :: x9 :: x10 :: y :: l) k := h
theorem aug11 {x0 x1 x2 x3 x4 x5 x6 x7 x8 x9 x10 : Option D} {l : Ev} {d : D} {S : Sto} {te : TEd} {f : F2} {nx bk ct : Ev → Sto → Prop} {rt : DK} {ex : Xc → Ev → Sto → Prop} (k : te (x0 :: x1 :: x2 :: x3 :: x4 :: x5 :: x6 :: x7 :: x8 :: x9 :: x10 :: some d :: l) S (fun y S1 => f d y S1 fun z S2 => nx (x0 :: x1 :: x2 :: x3 :: x4 :: x5 :: x6 :: x7 :: x8 :: x9 :: x10 :: some z :: l) S2) fun x S1 => ex x (x0 :: x1 :: x2 :: x3 :: x4 :: x5 :: x6 :: x7 :: x8 :: x9 :: x10 :: some d :: l) S1) : sAug 11 te f (x0 :: x1 :: x2 :: x3 :: x4 :: x5 :: x6 :: x7 :: x8 :: x9 :: x10 :: some d :: l) S ⟨nx, rt, bk, ct, ex⟩ := k
theorem vr12 {x0 x1 x2 x3 x4 x5 x6 x7 x8 x9 x10 x11 : Option D} {l : Ev} {d : D} {S : Sto} {Q : DK} {E : EK} (k : Q d S) : vr 12 (x0 :: x1 :: x2 :: x3 :: x4 :: x5 :: x6 :: x7 :: x8 :: x9 :: x10 :: x11 :: some d :: l) S Q E := k
theorem set12 {x0 x1 x2 x3 x4 x5 x6 x7 x8 x9 x10 x11 : Option D} {y : Option D} {l : Ev} {d : D} {S : Sto} {nx : Ev → Sto → Prop} (k : nx (x0 :: x1 :: x2 :: x3 :: x4 :: x5 :: x6 :: x7 :: x8 :: x9 :: x10 :: x11 :: some d :: l) S) : asgK S (.nm 12) d (x0 :: x1 :: x2 :: x3 :: x4 :: x5 :: x6 :: x7 :: x8 :: x9 :: x10 :: x11 :: y :: l) nx := k
theorem uns12 {x0 x1 x2 x3 x4 x5 x6 x7 x8 x9 x10 x11 : Option D} {y : Option D} {l : Ev} {k : Ev → Prop} (h : k (x0 :: x1 :: x2 :: x3 :: x4 :: x5 :: x6 :: x7 :: x8 :: x9 :: x10 :: x11 :: none :: l)) : unsK 12 (x0 :: x1 :: x2 :: x3 :: x4 :: x5 :: x6 :: x7 :: x8 :: x9 :: x10 :: x11 :: y :: l) k := h
theorem aug12 {x0 x1 x2 x3 x4 x5 x6 x7 x8 x9 x10 x11 : Option D} {l : Ev} {d : D} {S : Sto} {te : TEd} {f : F2} {nx bk ct : Ev → Sto → Prop} {rt : DK} {ex : Xc → Ev → Sto → Prop} (k : te (x0 :: x1 :: x2 :: x3 :: x4 :: x5 :: x6 :: x7 :: x8 :: x9 :: x10 :: x11 :: some d :: l) S (fun y S1 => f d y S1 fun z S2 => nx (x0 :: x1 :: x2 :: x3 :: x4 :: x5 :: x6 :: x7 :: x8 :: x9 :: x10 :: x11 :: some z :: l) S2) fun x S1 => ex x (x0 :: x1 :: x2 :: x3 :: x4 :: x5 :: x6 :: x7 :: x8 :: x9 :: x10 :: x11 :: some d :: l) S1) : sAug 12 te f (x0 :: x1 :: x2 :: x3 :: x4 :: x5 :: x6 :: x7 :: x8 :: x9 :: x10 :: x11 :: some d :: l) S ⟨nx, rt, bk, ct, ex⟩ := k
theorem vr13 {x0 x1 x2 x3 x4 x5 x6 x7 x8 x9 x10 x11 x12 : Option D} {l : Ev} {d : D} {S : Sto} {Q : DK} {E : EK} (k : Q d S) : vr 13 (x0 :: x1 :: x2 :: x3 :: x4 :: x5 :: x6 :: x7 :: x8 :: x9 :: x10 :: x11 :: x12 :: some d :: l) S Q E := k
theorem set13 {x0 x1 x2 x3 x4 x5 x6 x7 x8 x9 x10 x11 x12 : Option D} {y : Option D} {l : Ev} {d : D} {S : Sto} {nx : Ev → Sto → Prop} (k : nx (x0 :: x1 :: x2 :: x3 :: x4 :: x5 :: x6 :: x7 :: x8 :: x9 :: x10 :: x11 :: x12 :: some d :: l) S) : asgK S (.nm 13) d (x0 :: x1 :: x2 :: x3 :: x4 :: x5 :: x6 :: x7 :: x8 :: x9 :: x10 :: x11 :: x12 :: y :: l) nx := k
theorem uns13 {x0 x1 x2 x3 x4 x5 x6 x7 x8 x9 x10 x11 x12 : Option D} {y : Option D} {l : Ev} {k : Ev → Prop} (h : k (x0 :: x1 :: x2 :: x3 :: x4 :: x5 :: x6 :: x7 :: x8 :: x9 :: x10 :: x11 :: x12 :: none :: l)) : unsK 13 (x0 :: x1 :: x2 :: x3 :: x4 :: x5 :: x6 :: x7 :: x8 :: x9 :: x10 :: x11 :: x12 :: y :: l) k := h
theorem aug13 {x0 x1 x2 x3 x4 x5 x6 x7 x8 x9 x10 x11 x12 : Option D} {l : Ev} {d : D} {S : Sto} {te : TEd} {f : F2} {nx bk ct : Ev → Sto → Prop} {rt : DK} {ex : Xc → Ev → Sto → Prop} (k : te (x0 :: x1 :: x2 :: x3 :: x4 :: x5 :: x6 :: x7 :: x8 :: x9 :: x10 :: x11 :: x12 :: some d :: l) S (fun y S1 => f d y S1 fun z S2 => nx (x0 :: x1 :: x2 :: x3 :: x4 :: x5 :: x6 :: x7 :: x8 :: x9 :: x10 :: x11 :: x12 :: some z :: l) S2) fun x S1 => ex x (x0 :: x1 :: x2 :: x3 :: x4 :: x5 :: x6 :: x7 :: x8 :: x9 :: x10 :: x11 :: x12 :: some d :: l) S1) : sAug 13 te f (x0 :: x1 :: x2 :: x3 :: x4 :: x5 :: x6 :: x7 :: x8 :: x9 :: x10 :: x11 :: x12 :: some d :: l) S ⟨nx, rt, bk, ct, ex⟩ := k
theorem vr14 {x0 x1 x2 x3 x4 x5 x6 x7 x8 x9 x10 x11 x12 x13 : Option D} {l : Ev} {d : D} {S : Sto} {Q : DK} {E : EK} (k : Q d S) : vr 14 (x0 :: x1 :: x2 :: x3 :: x4 :: x5 :: x6 :: x7 :: x8 :: x9 :: x10 :: x11 :: x12 :: x13 :: some d :: l) S Q E := k
theorem set14 {x0 x1 x2 x3 x4 x5 x6 x7 x8 x9 x10 x11 x12 x13 : Option D} {y : Option D} {l : Ev} {d : D} {S : Sto} {nx : Ev → Sto → Prop} (k : nx (x0 :: x1 :: x2 :: x3 :: x4 :: x5 :: x6 :: x7 :: x8 :: x9 :: x10 :: x11 :: x12 :: x13 :: some d :: l) S) : asgK S (.nm 14) d (x0 :: x1 :: x2 :: x3 :: x4 :: x5 :: x6 :: x7 :: x8 :: x9 :: x10 :: x11 :: x12 :: x13 :: y :: l) nx := k
theorem uns14 {x0 x1 x2 x3 x4 x5 x6 x7 x8 x9 x10 x11 x12 x13 : Option D} {y : Option D} {l : Ev} {k : Ev → Prop} (h : k (x0 :: x1 :: x2 :: x3 :: x4 :: x5 :: x6 :: x7 :: x8 :: x9 :: x10 :: x11 :: x12 :: x13 :: none :: l)) : unsK 14 (x0 :: x1 :: x2 :: x3 :: x4 :: x5 :: x6 :: x7 :: x8 :: x9 :: x10 :: x11 :: x12 :: x13 :: y :: l) k := h
theorem aug14 {x0 x1 x2 x3 x4 x5 x6 x7 x8 x9 x10 x11 x12 x13 : Option D} {l : Ev} {d : D} {S : Sto} {te : TEd} {f : F2} {nx bk ct : Ev → Sto → Prop} {rt : DK} {ex : Xc → Ev → Sto → Prop} (k : te (x0 :: x1 :: x2 :: x3 :: x4 :: x5 :: x6 :: x7 :: x8 :: x9 :: x10 :: x11 :: x12 :: x13 :: some d :: l) S (fun y S1 => f d y S1 fun z S2 => nx (x0 :: x1 :: x2 :: x3 :: x4 :: x5 :: x6 :: x7 :: x8 :: x9 :: x10 :: x11 :: x12 :: x13 :: some z :: l) S2) fun x S1 => ex x (x0 :: x1 :: x2 :: x3 :: x4 :: x5 :: x6 :: x7 :: x8 :: x9 :: x10 :: x11 :: x12 :: x13 :: some d :: l) S1) : sAug 14 te f (x0 :: x1 :: x2 :: x3 :: x4 :: x5 :: x6 :: x7 :: x8 :: x9 :: x10 :: x11 :: x12 :: x13 :: some d :: l) S ⟨nx, rt, bk, ct, ex⟩ := k
theorem vr15 {x0 x1 x2 x3 x4 x5 x6 x7 x8 x9 x10 x11 x12 x13 x14 : Option D} {l : Ev} {d : D} {S : Sto} {Q : DK} {E : EK} (k : Q d S) : vr 15 (x0 :: x1 :: x2 :: x3 :: x4 :: x5 :: x6 :: x7 :: x8 :: x9 :: x10 :: x11 :: x12 :: x13 :: x14 :: some d :: l) S Q E := k
theorem set15 {x0 x1 x2 x3 x4 x5 x6 x7 x8 x9 x10 x11 x12 x13 x14 : Option D} {y : Option D} {l : Ev} {d : D} {S : Sto} {nx : Ev → Sto → Prop} (k : nx (x0 :: x1 :: x2 :: x3 :: x4 :: x5 :: x6 :: x7 :: x8 :: x9 :: x10 :: x11 :: x12 :: x13 :: x14 :: some d :: l) S) : asgK S (.nm 15) d (x0 :: x1 :: x2 :: x3 :: x4 :: x5 :: x6 :: x7 :: x8 :: x9 :: x10 :: x11 :: x12 :: x13 :: x14 :: y :: l) nx := k
theorem uns15 {x0 x1 x2 x3 x4 x5 x6 x7 x8 x9 x10 x11 x12 x13 x14 : Option D} {y : Option D} {l : Ev} {k : Ev → Prop} (h : k (x0 :: x1 :: x2 :: x3 :: x4 :: x5 :: x6 :: x7 :: x8 :: x9 :: x10 :: x11 :: x12 :: x13 :: x14 :: none :: l)) : unsK 15 (x0 :: x1 :: x2 :: x3 :: x4 :: x5 :: x6 :: x7 :: x8 :: x9 :: x10 :: x11 :: x12 :: x13 :: x14 :: y :: l) k := h
theorem aug15 {x0 x1 x2 x3 x4 x5 x6 x7 x8 x9 x10 x11 x12 x13 x14 : Option D} {l : Ev} {d : D} {S : Sto} {te : TEd} {f : F2} {nx bk ct : Ev → Sto → Prop} {rt : DK} {ex : Xc → Ev → Sto → Prop} (k : te (x0 :: x1 :: x2 :: x3 :: x4 :: x5 :: x6 :: x7 :: x8 :: x9 :: x10 :: x11 :: x12 :: x13 :: x14 :: some d :: l) S (fun y S1 => f d y S1 fun z S2 => nx (x0 :: x1 :: x2 :: x3 :: x4 :: x5 :: x6 :: x7 :: x8 :: x9 :: x10 :: x11 :: x12 :: x13 :: x14 :: some z :: l) S2) fun x S1 => ex x (x0 :: x1 :: x2 :: x3 :: x4 :: x5 :: x6 :: x7 :: x8 :: x9 :: x10 :: x11 :: x12 :: x13 :: x14 :: some d :: l) S1) : sAug 15 te f (x0 :: x1 :: x2 :: x3 :: x4 :: x5 :: x6 :: x7 :: x8 :: x9 :: x10 :: x11 :: x12 :: x13 :: x14 :: some d :: l) S ⟨nx, rt, bk, ct, ex⟩ := k
theorem vr16 {x0 x1 x2 x3 x4 x5 x6 x7 x8 x9 x10 x11 x12 x13 x14 x15 : Option D} {l : Ev} {d : D} {S : Sto} {Q : DK} {E : EK} (k : Q d S) : vr 16 (x0 :: x1 :: x2 :: x3 :: x4 :: x5 :: x6 :: x7 :: x8 :: x9 :: x10 :: x11 :: x12 :: x13 :: x14 :: x15 :: some d :: l) S Q E := k
theorem set16 {x0 x1 x2 x3 x4 x5 x6 x7 x8 x9 x10 x11 x12 x13 x14 x15 : Option D} {y : Option D} {l : Ev} {d : D} {S : Sto} {nx : Ev → Sto → Prop} (k : nx (x0 :: x1 :: x2 :: x3 :: x4 :: x5 :: x6 :: x7 :: x8 :: x9 :: x10 :: x11 :: x12 :: x13 :: x14 :: x15 :: some d :: l) S) : asgK S (.nm 16) d (x0 :: x1 :: x2 :: x3 :: x4 :: x5 :: x6 :: x7 :: x8 :: x9 :: x10 :: x11 :: x12 :: x13 :: x14 :: x15 :: y :: l) nx := k
theorem uns16 {x0 x1 x2 x3 x4 x5 x6 x7 x8 x9 x10 x11 x12 x13 x14 x15 : Option D} {y : Option D} {l : Ev} {k : Ev → Prop} (h : k (x0 :: x1 :: x2 :: x3 :: x4 :: x5 :: x6 :: x7 :: x8 :: x9 :: x10 :: x11 :: x12 :: x13 :: x14 :: x15 :: none :: l)) : unsK 16 (x0 :: x1 :: x2 :: x3 :: x4 :: x5 :: x6 :: x7 :: x8 :: x9 :: x10 :: x11 :: x12 :: x13 :: x14 :: x15 :: y :: l) k := h
theorem aug16 {x0 x1 x2 x3 x4 x5 x6 x7 x8 x9 x10 x11 x12 x13 x14 x15 : Option D} {l : Ev} {d : D} {S : Sto} {te : TEd} {f : F2} {nx bk ct : Ev → Sto → Prop} {rt : DK} {ex : Xc → Ev → Sto → Prop} (k : te (x0 :: x1 :: x2 :: x3 :: x4 :: x5 :: x6 :: x7 :: x8 :: x9 :: x10 :: x11 :: x12 :: x13 :: x14 :: x15 :: some d :: l) S (fun y S1 => f d y S1 fun z S2 => nx (x0 :: x1 :: x2 :: x3 :: x4 :: x5 :: x6 :: x7 :: x8 :: x9 :: x10 :: x11 :: x12 :: x13 :: x14 :: x15 :: some z :: l) S2) fun x S1 => ex x (x0 :: x1 :: x2 :: x3 :: x4 :: x5 :: x6 :: x7 :: x8 :: x9 :: x10 :: x11 :: x12 :: x13 :: x14 :: x15 :: some d :: l) S1) : sAug 16 te f (x0 :: x1 :: x2 :: x3 :: x4 :: x5 :: x6 :: x7 :: x8 :: x9 :: x10 :: x11 :: x12 :: x13 :: x14 :: x15 :: some d :: l) S ⟨nx, rt, bk, ct, ex⟩ := k
theorem vr17 {x0 x1 x2 x3 x4 x5 x6 x7 x8 x9 x10 x11 x12 x13 x14 x15 x16 : Option D} {l : Ev} {d : D} {S : Sto} {Q : DK} {E : EK} (k : Q d S) : vr 17 (x0 :: x1 :: x2 :: x3 :: x4 :: x5 :: x6 :: x7 :: x8 :: x9 :: x10 :: x11 :: x12 :: x13 :: x14 :: x15 :: x16 :: some d :: l) S Q E := k
theorem set17 {x0 x1 x2 x3 x4 x5 x6 x7 x8 x9 x10 x11 x12 x13 x14 x15 x16 : Option D} {y : Option D} {l : Ev} {d : D} {S : Sto} {nx : Ev → Sto → Prop} (k : nx (x0 :: x1 :: x2 :: x3 :: x4 :: x5 :: x6 :: x7 :: x8 :: x9 :: x10 :: x11 :: x12 :: x13 :: x14 :: x15 :: x16 :: some d :: l) S) : asgK S (.nm 17) d (x0 :: x1 :: x2 :: x3 :: x4 :: x5 :: x6 :: x7 :: x8 :: x9 :: x10 :: x11 :: x12 :: x13 :: x14 :: x15 :: x16 :: y :: l) nx := k
theorem uns17 {x0 x1 x2 x3 x4 x5 x6 x7 x8 x9 x10 x11 x12 x13 x14 x15 x16 : Option D} {y : Option D} {l : Ev} {k : Ev → Prop} (h : k (x0 :: x1 :: x2 :: x3 :: x4 :: x5 :: x6 :: x7 :: x8 :: x9 :: x10 :: x11 :: x12 :: x13 :: x14 :: x15 :: x16 :: none :: l)) : unsK 17 (x0 :: x1 :: x2 :: x3 :: x4 :: x5 :: x6 :: x7 :: x8 :: x9 :: x10 :: x11 :: x12 :: x13 :: x14 :: x15 :: x16 :: y :: l) k := h
theorem aug17 {x0 x1 x2 x3 x4 x5 x6 x7 x8 x9 x10 x11 x12 x13 x14 x15 x16 : Option D} {l : Ev} {d : D} {S : Sto} {te : TEd} {f : F2} {nx bk ct : Ev → Sto → Prop} {rt : DK} {ex : Xc → Ev → Sto → Prop} (k : te (x0 :: x1 :: x2 :: x3 :: x4 :: x5 :: x6 :: x7 :: x8 :: x9 :: x10 :: x11 :: x12 :: x13 :: x14 :: x15 :: x16 :: some d :: l) S (fun y S1 => f d y S1 fun z S2 => nx (x0 :: x1 :: x2 :: x3 :: x4 :: x5 :: x6 :: x7 :: x8 :: x9 :: x10 :: x11 :: x12 :: x13 :: x14 :: x15 :: x16 :: some z :: l) S2) fun x S1 => ex x (x0 :: x1 :: x2 :: x3 :: x4 :: x5 :: x6 :: x7 :: x8 :: x9 :: x10 :: x11 :: x12 :: x13 :: x14 :: x15 :: x16 :: some d :: l) S1) : sAug 17 te f (x0 :: x1 :: x2 :: x3 :: x4 :: x5 :: x6 :: x7 :: x8 :: x9 :: x10 :: x11 :: x12 :: x13 :: x14 :: x15 :: x16 :: some d :: l) S ⟨nx, rt, bk, ct, ex⟩ := k
theorem vr18 {x0 x1 x2 x3 x4 x5 x6 x7 x8 x9 x10 x11 x12 x13 x14 x15 x16 x17 : Option D} {l : Ev} {d : D} {S : Sto} {Q : DK} {E : EK} (k : Q d S) : vr 18 (x0 :: x1 :: x2 :: x3 :: x4 :: x5 :: x6 :: x7 :: x8 :: x9 :: x10 :: x11 :: x12 :: x13 :: x14 :: x15 :: x16 :: x17 :: some d :: l) S Q E := k
theorem set18 {x0 x1 x2 x3 x4 x5 x6 x7 x8 x9 x10 x11 x12 x13 x14 x15 x16 x17 : Option D} {y : Option D} {l : Ev} {d : D} {S : Sto} {nx : Ev → Sto → Prop} (k : nx (x0 :: x1 :: x2 :: x3 :: x4 :: x5 :: x6 :: x7 :: x8 :: x9 :: x10 :: x11 :: x12 :: x13 :: x14 :: x15 :: x16 :: x17 :: some d :: l) S) : asgK S (.nm 18) d (x0 :: x1 :: x2 :: x3 :: x4 :: x5 :: x6 :: x7 :: x8 :: x9 :: x10 :: x11 :: x12 :: x13 :: x14 :: x15 :: x16 :: x17 :: y :: l) nx := k
theorem uns18 {x0 x1 x2 x3 x4 x5 x6 x7 x8 x9 x10 x11 x12 x13 x14 x15 x16 x17 : Option D} {y : Option D} {l : Ev} {k : Ev → Prop} (h : k (x0 :: x1 :: x2 :: x3 :: x4 :: x5 :: x6 :: x7 :: x8 :: x9 :: x10 :: x11 :: x12 :: x13 :: x14 :: x15 :: x16 :: x17 :: none :: l)) : unsK 18 (x0 :: x1 :: x2 :: x3 :: x4 :: x5 :: x6 :: x7 :: x8 :: x9 :: x10 :: x11 :: x12 :: x13 :: x14 :: x15 :: x16 :: x17 :: y :: l) k := h
theorem aug18 {x0 x1 x2 x3 x4 x5 x6 x7 x8 x9 x10 x11 x12 x13 x14 x15 x16 x17 : Option D} {l : Ev} {d : D} {S : Sto} {te : TEd} {f : F2} {nx bk ct : Ev → Sto → Prop} {rt : DK} {ex : Xc → Ev → Sto → Prop} (k : te (x0 :: x1 :: x2 :: x3 :: x4 :: x5 :: x6 :: x7 :: x8 :: x9 :: x10 :: x11 :: x12 :: x13 :: x14 :: x15 :: x16 :: x17 :: some d :: l) S (fun y S1 => f d y S1 fun z S2 => nx (x0 :: x1 :: x2 :: x3 :: x4 :: x5 :: x6 :: x7 :: x8 :: x9 :: x10 :: x11 :: x12 :: x13 :: x14 :: x15 :: x16 :: x17 :: some z :: l) S2) fun x S1 => ex x (x0 :: x1 :: x2 :: x3 :: x4 :: x5 :: x6 :: x7 :: x8 :: x9 :: x10 :: x11 :: x12 :: x13 :: x14 :: x15 :: x16 :: x17 :: some d :: l) S1) : sAug 18 te f (x0 :: x1 :: x2 :: x3 :: x4 :: x5 :: x6 :: x7 :: x8 :: x9 :: x10 :: x11 :: x12 :: x13 :: x14 :: x15 :: x16 :: x17 :: some d :: l) S ⟨nx, rt, bk, ct, ex⟩ := k
theorem vr19 {x0 x1 x2 x3 x4 x5 x6 x7 x8 x9 x10 x11 x12 x13 x14 x15 x16 x17 x18 : Option D} {l : Ev} {d : D} {S : Sto} {Q : DK} {E : EK} (k : Q d S) : vr 19 (x0 :: x1 :: x2 :: x3 :: x4 :: x5 :: x6 :: x7 :: x8 :: x9 :: x10 :: x11 :: x12 :: x13 :: x14 :: x15 :: x16 :: x17 :: x18 :: some d :: l) S Q E := k
theorem set19 {x0 x1 x2 x3 x4 x5 x6 x7 x8 x9 x10 x11 x12 x13 x14 x15 x16 x17 x18 : Option D} {y : Option D} {l : Ev} {d : D} {S : Sto} {nx : Ev → Sto → Prop} (k : nx (x0 :: x1 :: x2 :: x3 :: x4 :: x5 :: x6 :: x7 :: x8 :: x9 :: x10 :: x11 :: x12 :: x13 :: x14 :: x15 :: x16 :: x17 :: x18 :: some d :: l) S) : asgK S (.nm 19) d (x0 :: x1 :: x2 :: x3 :: x4 :: x5 :: x6 :: x7 :: x8 :: x9 :: x10 :: x11 :: x12 :: x13 :: x14 :: x15 :: x16 :: x17 :: x18 :: y :: l) nx := k
theorem uns19 {x0 x1 x2 x3 x4 x5 x6 x7 x8 x9 x10 x11 x12 x13 x14 x15 x16 x17 x18 : Option D} {y : Option D} {l : Ev} {k : Ev → Prop} (h : k (x0 :: x1 :: x2 :: x3 :: x4 :: x5 :: x6 :: x7 :: x8 :: x9 :: x10 :: x11 :: x12 :: x13 :: x14 :: x15 :: x16 :: x17 :: x18 :: none :: l)) : unsK 19 (x0 :: x1 :: x2 :: x3 :: x4 :: x5 :: x6 :: x7 :: x8 :: x9 :: x10 :: x11 :: x12 :: x13 :: x14 :: x15 :: x16 :: x17 :: x18 :: y :: l) k := h
theorem aug19 {x0 x1 x2 x3 x4 x5 x6 x7 x8 x9 x10 x11 x12 x13 x14 x15 x16 x17 x18 : Option D} {l : Ev} {d : D} {S : Sto} {te : TEd} {f : F2} {nx bk ct : Ev → Sto → Prop} {rt : DK} {ex : Xc → Ev → Sto → Prop} (k : te (x0 :: x1 :: x2 :: x3 :: x4 :: x5 :: x6 :: x7 :: x8 :: x9 :: x10 :: x11 :: x12 :: x13 :: x14 :: x15 :: x16 :: x17 :: x18 :: some d :: l) S (fun y S1 => f d y S1 fun z S2 => nx (x0 :: x1 :: x2 :: x3 :: x4 :: x5 :: x6 :: x7 :: x8 :: x9 :: x10 :: x11 :: x12 :: x13 :: x14 :: x15 :: x16 :: x17 :: x18 :: some z :: l) S2) fun x S1 => ex x (x0 :: x1 :: x2 :: x3 :: x4 :: x5 :: x6 :: x7 :: x8 :: x9 :: x10 :: x11 :: x12 :: x13 :: x14 :: x15 :: x16 :: x17 :: x18 :: some d :: l) S1) : sAug 19 te f (x0 :: x1 :: x2 :: x3 :: x4 :: x5 :: x6 :: x7 :: x8 :: x9 :: x10 :: x11 :: x12 :: x13 :: x14 :: x15 :: x16 :: x17 :: x18 :: some d :: l) S ⟨nx, rt, bk, ct, ex⟩ := k
theorem vr20 {x0 x1 x2 x3 x4 x5 x6 x7 x8 x9 x10 x11 x12 x13 x14 x15 x16 x17 x18 x19 : Option D} {l : Ev} {d : D} {S : Sto} {Q : DK} {E : EK} (k : Q d S) : vr 20 (x0 :: x1 :: x2 :: x3 :: x4 :: x5 :: x6 :: x7 :: x8 :: x9 :: x10 :: x11 :: x12 :: x13 :: x14 :: x15 :: x16 :: x17 :: x18 :: x19 :: some d :: l) S Q E := k
theorem set20 {x0 x1 x2 x3 x4 x5 x6 x7 x8 x9 x10 x11 x12 x13 x14 x15 x16 x17 x18 x19 : Option D} {y : Option D} {l : Ev} {d : D} {S : Sto} {nx : Ev → Sto → Prop} (k : nx (x0 :: x1 :: x2 :: x3 :: x4 :: x5 :: x6 :: x7 :: x8 :: x9 :: x10 :: x11 :: x12 :: x13 :: x14 :: x15 :: x16 :: x17 :: x18 :: x19 :: some d :: l) S) : asgK S (.nm 20) d (x0 :: x1 :: x2 :: x3 :: x4 :: x5 :: x6 :: x7 :: x8 :: x9 :: x10 :: x11 :: x12 :: x13 :: x14 :: x15 :: x16 :: x17 :: x18 :: x19 :: y :: l) nx := k
theorem uns20 {x0 x1 x2 x3 x4 x5 x6 x7 x8 x9 x10 x11 x12 x13 x14 x15 x16 x17 x18 x19 : Option D} {y : Option D} {l : Ev} {k : Ev → Prop} (h : k (x0 :: x1 :: x2 :: x3 :: x4 :: x5 :: x6 :: x7 :: x8 :: x9 :: x10 :: x11 :: x12 :: x13 :: x14 :: x15 :: x16 :: x17 :: x18 :: x19 :: none :: l)) : unsK 20 (x0 :: x1 :: x2 :: x3 :: x4 :: x5 :: x6 :: x7 :: x8 :: x9 :: x10 :: x11 :: x12 :: x13 :: x14 :: x15 :: x16 :: x17 :: x18 :: x19 :: y :: l) k := h
theorem aug20 {x0 x1 x2 x3 x4 x5 x6 x7 x8 x9 x10 x11 x12 x13 x14 x15 x16 x17 x18 x19 : Option D} {l : Ev} {d : D} {S : Sto} {te : TEd} {f : F2} {nx bk ct : Ev → Sto → Prop} {rt : DK} {ex : Xc → Ev → Sto → Prop} (k : te (x0 :: x1 :: x2 :: x3 :: x4 :: x5 :: x6 :: x7 :: x8 :: x9 :: x10 :: x11 :: x12 :: x13 :: x14 :: x15 :: x16 :: x17 :: x18 :: x19 :: some d :: l) S (fun y S1 => f d y S1 fun z S2 => nx (x0 :: x1 :: x2 :: x3 :: x4 :: x5 :: x6 :: x7 :: x8 :: x9 :: x10 :: x11 :: x12 :: x13 :: x14 :: x15 :: x16 :: x17 :: x18 :: x19 :: some z :: l) S2) fun x S1 => ex x (x0 :: x1 :: x2 :: x3 :: x4 :: x5 :: x6 :: x7 :: x8 :: x9 :: x10 :: x11 :: x12 :: x13 :: x14 :: x15 :: x16 :: x17 :: x18 :: x19 :: some d :: l) S1) : sAug 20 te f (x0 :: x1 :: x2 :: x3 :: x4 :: x5 :: x6 :: x7 :: x8 :: x9 :: x10 :: x11 :: x12 :: x13 :: x14 :: x15 :: x16 :: x17 :: x18 :: x19 :: some d :: l) S ⟨nx, rt, bk, ct, ex⟩ := k
theorem vr21 {x0 x1 x2 x3 x4 x5 x6 x7 x8 x9 x10 x11 x12 x13 x14 x15 x16 x17 x18 x19 x20 : Option D} {l : Ev} {d : D} {S : Sto} {Q : DK} {E : EK} (k : Q d S) : vr 21 (x0 :: x1 :: x2 :: x3 :: x4 :: x5 :: x6 :: x7 :: x8 :: x9 :: x10 :: x11 :: x12 :: x13 :: x14 :: x15 :: x16 :: x17 :: x18 :: x19 :: x20 :: some d :: l) S Q E := k
theorem set21 {x0 x1 x2 x3 x4 x5 x6 x7 x8 x9 x10 x11 x12 x13 x14 x15 x16 x17 x18 x19 x20 : Option D} {y : Option D} {l : Ev} {d : D} {S : Sto} {nx : Ev → Sto → Prop} (k : nx (x0 :: x1 :: x2 :: x3 :: x4 :: x5 :: x6 :: x7 :: x8 :: x9 :: x10 :: x11 :: x12 :: x13 :: x14 :: x15 :: x16 :: x17 :: x18 :: x19 :: x20 :: some d :: l) S) : asgK S (.nm 21) d (x0 :: x1 :: x2 :: x3 :: x4 :: x5 :: x6 :: x7 :: x8 :: x9 :: x10 :: x11 :: x12 :: x13 :: x14 :: x15 :: x16 :: x17 :: x18 :: x19 :: x20 :: y :: l) nx := k
theorem uns21 {x0 x1 x2 x3 x4 x5 x6 x7 x8 x9 x10 x11 x12 x13 x14 x15 x16 x17 x18 x19 x20 : Option D} {y : Option D} {l : Ev} {k : Ev → Prop} (h : k (x0 :: x1 :: x2 :: x3 :: x4 :: x5 :: x6 :: x7 :: x8 :: x9 :: x10 :: x11 :: x12 :: x13 :: x14 :: x15 :: x16 :: x17 :: x18 :: x19 :: x20 :: none :: l)) : unsK 21 (x0 :: x1 :: x2 :: x3 :: x4 :: x5 :: x6 :: x7 :: x8 :: x9 :: x10 :: x11 :: x12 :: x13 :: x14 :: x15 :: x16 :: x17 :: x18 :: x19 :: x20 :: y :: l) k := h
theorem aug21 {x0 x1 x2 x3 x4 x5 x6 x7 x8 x9 x10 x11 x12 x13 x14 x15 x16 x17 x18 x19 x20 : Option D} {l : Ev} {d : D} {S : Sto} {te : TEd} {f : F2} {nx bk ct : Ev → Sto → Prop} {rt : DK} {ex : Xc → Ev → Sto → Prop} (k : te (x0 :: x1 :: x2 :: x3 :: x4 :: x5 :: x6 :: x7 :: x8 :: x9 :: x10 :: x11 :: x12 :: x13 :: x14 :: x15 :: x16 :: x17 :: x18 :: x19 :: x20 :: some d :: l) S (fun y S1 => f d y S1 fun z S2 => nx (x0 :: x1 :: x2 :: x3 :: x4 :: x5 :: x6 :: x7 :: x8 :: x9 :: x10 :: x11 :: x12 :: x13 :: x14 :: x15 :: x16 :: x17 :: x18 :: x19 :: x20 :: some z :: l) S2) fun x S1 => ex x (x0 :: x1 :: x2 :: x3 :: x4 :: x5 :: x6 :: x7 :: x8 :: x9 :: x10 :: x11 :: x12 :: x13 :: x14 :: x15 :: x16 :: x17 :: x18 :: x19 :: x20 :: some d :: l) S1) : sAug 21 te f (x0 :: x1 :: x2 :: x3 :: x4 :: x5 :: x6 :: x7 :: x8 :: x9 :: x10 :: x11 :: x12 :: x13 :: x14 :: x15 :: x16 :: x17 :: x18 :: x19 :: x20 :: some d :: l) S ⟨nx, rt, bk, ct, ex⟩ := k
theorem vr22 {x0 x1 x2 x3 x4 x5 x6 x7 x8 x9 x10 x11 x12 x13 x14 x15 x16 x17 x18 x19 x20 x21 : Option D} {l : Ev} {d : D} {S : Sto} {Q : DK} {E : EK} (k : Q d S) : vr 22 (x0 :: x1 :: x2 :: x3 :: x4 :: x5 :: x6 :: x7 :: x8 :: x9 :: x10 :: x11 :: x12 :: x13 :: x14 :: x15 :: x16 :: x17 :: x18 :: x19 :: x20 :: x21 :: some d :: l) S Q E := k
theorem set22 {x0 x1 x2 x3 x4 x5 x6 x7 x8 x9 x10 x11 x12 x13 x14 x15 x16 x17 x18 x19 x20 x21 : Option D} {y : Option D} {l : Ev} {d : D} {S : Sto} {nx : Ev → Sto → Prop} (k : nx (x0 :: x1 :: x2 :: x3 :: x4 :: x5 :: x6 :: x7 :: x8 :: x9 :: x10 :: x11 :: x12 :: x13 :: x14 :: x15 :: x16 :: x17 :: x18 :: x19 :: x20 :: x21 :: some d :: l) S) : asgK S (.nm 22) d (x0 :: x1 :: x2 :: x3 :: x4 :: x5 :: x6 :: x7 :: x8 :: x9 :: x10 :: x11 :: x12 :: x13 :: x14 :: x15 :: x16 :: x17 :: x18 :: x19 :: x20 :: x21 :: y :: l) nx := k
theorem uns22 {x0 x1 x2 x3 x4 x5 x6 x7 x8 x9 x10 x11 x12 x13 x14 x15 x16 x17 x18 x19 x20 x21 : Option D} {y : Option D} {l : Ev} {k : Ev → Prop} (h : k (x0 :: x1 :: x2 :: x3 :: x4 :: x5 :: x6 :: x7 :: x8 :: x9 :: x10 :: x11 :: x12 :: x13 :: x14 :: x15 :: x16 :: x17 :: x18 :: x19 :: x20 :: x21 :: none :: l)) : unsK 22 (x0 :: x1 :: x2 :: x3 :: x4 :: x5 :: x6 :: x7 :: x8 :: x9 :: x10 :: x11 :: x12 :: x13 :: x14 :: x15 :: x16 :: x17 :: x18 :: x19 :: x20 :: x21 :: y :: l) k := h
theorem aug22 {x0 x1 x2 x3 x4 x5 x6 x7 x8 x9 x10 x11 x12 x13 x14 x15 x16 x17 x18 x19 x20 x21 : Option D} {l : Ev} {d : D} {S : Sto} {te : TEd} {f : F2} {nx bk ct : Ev → Sto → Prop} {rt : DK} {ex : Xc → Ev → Sto → Prop} (k : te (x0 :: x1 :: x2 :: x3 :: x4 :: x5 :: x6 :: x7 :: x8 :: x9 :: x10 :: x11 :: x12 :: x13 :: x14 :: x15 :: x16 :: x17 :: x18 :: x19 :: x20 :: x21 :: some d :: l) S (fun y S1 => f d y S1 fun z S2 => nx (x0 :: x1 :: x2 :: x3 :: x4 :: x5 :: x6 :: x7 :: x8 :: x9 :: x10 :: x11 :: x12 :: x13 :: x14 :: x15 :: x16 :: x17 :: x18 :: x19 :: x20 :: x21 :: some z :: l) S2) fun x S1 => ex x (x0 :: x1 :: x2 :: x3 :: x4 :: x5 :: x6 :: x7 :: x8 :: x9 :: x10 :: x11 :: x12 :: x13 :: x14 :: x15 :: x16 :: x17 :: x18 :: x19 :: x20 :: x21 :: some d :: l) S1) : sAug 22 te f (x0 :: x1 :: x2 :: x3 :: x4 :: x5 :: x6 :: x7 :: x8 :: x9 :: x10 :: x11 :: x12 :: x13 :: x14 :: x15 :: x16 :: x17 :: x18 :: x19 :: x20 :: x21 :: some d :: l) S ⟨nx, rt, bk, ct, ex⟩ := k
theorem vr23 {x0 x1 x2 x3 x4 x5 x6 x7 x8 x9 x10 x11 x12 x13 x14 x15 x16 x17 x18 x19 x20 x21 x22 : Option D} {l : Ev} {d : D} {S : Sto} {Q : DK} {E : EK} (k : Q d S) : vr 23 (x0 :: x1 :: x2 :: x3 :: x4 :: x5 :: x6 :: x7 :: x8 :: x9 :: x10 :: x11 :: x12 :: x13 :: x14 :: x15 :: x16 :: x17 :: x18 :: x19 :: x20 :: x21 :: x22 :: some d :: l) S Q E := k
theorem set23 {x0 x1 x2 x3 x4 x5 x6 x7 x8 x9 x10 x11 x12 x13 x14 x15 x16 x17 x18 x19 x20 x21 x22 : Option D} {y : Option D} {l : Ev} {d : D} {S : Sto} {nx : Ev → Sto → Prop} (k : nx (x0 :: x1 :: x2 :: x3 :: x4 :: x5 :: x6 :: x7 :: x8 :: x9 :: x10 :: x11 :: x12 :: x13 :: x14 :: x15 :: x16 :: x17 :: x18 :: x19 :: x20 :: x21 :: x22 :: some d :: l) S) : asgK S (.nm 23) d (x0 :: x1 :: x2 :: x3 :: x4 :: x5 :: x6 :: x7 :: x8 :: x9 :: x10 :: x11 :: x12 :: x13 :: x14 :: x15 :: x16 :: x17 :: x18 :: x19 :: x20 :: x21 :: x22 :: y :: l) nx := k
theorem uns23 {x0 x1 x2 x3 x4 x5 x6 x7 x8 x9 x10 x11 x12 x13 x14 x15 x16 x17 x18 x19 x20 x21 x22 : Option D} {y : Option D} {l : Ev} {k : Ev → Prop} (h : k (x0 :: x1 :: x2 :: x3 :: x4 :: x5 :: x6 :: x7 :: x8 :: x9 :: x10 :: x11 :: x12 :: x13 :: x14 :: x15 :: x16 :: x17 :: x18 :: x19 :: x20 :: x21 :: x22 :: none :: l)) : unsK 23 (x0 :: x1 :: x2 :: x3 :: x4 :: x5 :: x6 :: x7 :: x8 :: x9 :: x10 :: x11 :: x12 :: x13 :: x14 :: x15 :: x16 :: x17 :: x18 :: x19 :: x20 :: x21 :: x22 :: y :: l) k := h
theorem aug23 {x0 x1 x2 x3 x4 x5 x6 x7 x8 x9 x10 x11 x12 x13 x14 x15 x16 x17 x18 x19 x20 x21 x22 : Option D} {l : Ev} {d : D} {S : Sto} {te : TEd} {f : F2} {nx bk ct : Ev → Sto → Prop} {rt : DK} {ex : Xc → Ev → Sto → Prop} (k : te (x0 :: x1 :: x2 :: x3 :: x4 :: x5 :: x6 :: x7 :: x8 :: x9 :: x10 :: x11 :: x12 :: x13 :: x14 :: x15 :: x16 :: x17 :: x18 :: x19 :: x20 :: x21 :: x22 :: some d :: l) S (fun y S1 => f d y S1 fun z S2 => nx (x0 :: x1 :: x2 :: x3 :: x4 :: x5 :: x6 :: x7 :: x8 :: x9 :: x10 :: x11 :: x12 :: x13 :: x14 :: x15 :: x16 :: x17 :: x18 :: x19 :: x20 :: x21 :: x22 :: some z :: l) S2) fun x S1 => ex x (x0 :: x1 :: x2 :: x3 :: x4 :: x5 :: x6 :: x7 :: x8 :: x9 :: x10 :: x11 :: x12 :: x13 :: x14 :: x15 :: x16 :: x17 :: x18 :: x19 :: x20 :: x21 :: x22 :: some d :: l) S1) : sAug 23 te f (x0 :: x1 :: x2 :: x3 :: x4 :: x5 :: x6 :: x7 :: x8 :: x9 :: x10 :: x11 :: x12 :: x13 :: x14 :: x15 :: x16 :: x17 :: x18 :: x19 :: x20 :: x21 :: x22 :: some d :: l) S ⟨nx, rt, bk, ct, ex⟩ := k
theorem ixT0 {ds : List D} {d : D} {S : Sto} {Q : DK} (k : Q d S) : fIx (.tup (d :: ds)) (.int 0) S Q := ixT (atI_nat (j := 0) rfl) k
theorem ixL0 {ds : List D} {d : D} {S : Sto} {Q : DK} (k : Q d S) : fIx (.lst (d :: ds)) (.int 0) S Q := ixL (atI_nat (j := 0) rfl) k
theorem ixT1 {x0 : D} {ds : List D} {d : D} {S : Sto} {Q : DK} (k : Q d S) : fIx (.tup (x0 :: d :: ds)) (.int 1) S Q := ixT (atI_nat (j := 1) rfl) k
theorem ixL1 {x0 : D} {ds : List D} {d : D} {S : Sto} {Q : DK} (k : Q d S) : fIx (.lst (x0 :: d :: ds)) (.int 1) S Q := ixL (atI_nat (j := 1) rfl) k
theorem ixT2 {x0 x1 : D} {ds : List D} {d : D} {S : Sto} {Q : DK} (k : Q d S) : fIx (.tup (x0 :: x1 :: d :: ds)) (.int 2) S Q := ixT (atI_nat (j := 2) rfl) k
theorem ixL2 {x0 x1 : D} {ds : List D} {d : D} {S : Sto} {Q : DK} (k : Q d S) : fIx (.lst (x0 :: x1 :: d :: ds)) (.int 2) S Q := ixL (atI_nat (j := 2) rfl) k
theorem ixT3 {x0 x1 x2 : D} {ds : List D} {d : D} {S : Sto} {Q : DK} (k : Q d S) : fIx (.tup (x0 :: x1 :: x2 :: d :: ds)) (.int 3) S Q := ixT (atI_nat (j := 3) rfl) k
theorem ixL3 {x0 x1 x2 : D} {ds : List D} {d : D} {S : Sto} {Q : DK} (k : Q d S) : fIx (.lst (x0 :: x1 :: x2 :: d :: ds)) (.int 3) S Q := ixL (atI_nat (j := 3) rfl) k
theorem ixT4 {x0 x1 x2 x3 : D} {ds : List D} {d : D} {S : Sto} {Q : DK} (k : Q d S) : fIx (.tup (x0 :: x1 :: x2 :: x3 :: d :: ds)) (.int 4) S Q := ixT (atI_nat (j := 4) rfl) k
theorem ixL4 {x0 x1 x2 x3 : D} {ds : List D} {d : D} {S : Sto} {Q : DK} (k : Q d S) : fIx (.lst (x0 :: x1 :: x2 :: x3 :: d :: ds)) (.int 4) S Q := ixL (atI_nat (j := 4) rfl) k
theorem ixT5 {x0 x1 x2 x3 x4 : D} {ds : List D} {d : D} {S : Sto} {Q : DK} (k : Q d S) : fIx (.tup (x0 :: x1 :: x2 :: x3 :: x4 :: d :: ds)) (.int 5) S Q := ixT (atI_nat (j := 5) rfl) k
theorem ixL5 {x0 x1 x2 x3 x4 : D} {ds : List D} {d : D} {S : Sto} {Q : DK} (k : Q d S) : fIx (.lst (x0 :: x1 :: x2 :: x3 :: x4 :: d :: ds)) (.int 5) S Q := ixL (atI_nat (j := 5) rfl) k
theorem ixT6 {x0 x1 x2 x3 x4 x5 : D} {ds : List D} {d : D} {S : Sto} {Q : DK} (k : Q d S) : fIx (.tup (x0 :: x1 :: x2 :: x3 :: x4 :: x5 :: d :: ds)) (.int 6) S Q := ixT (atI_nat (j := 6) rfl) k
theorem ixL6 {x0 x1 x2 x3 x4 x5 : D} {ds : List D} {d : D} {S : Sto} {Q : DK} (k : Q d S) : fIx (.lst (x0 :: x1 :: x2 :: x3 :: x4 :: x5 :: d :: ds)) (.int 6) S Q := ixL (atI_nat (j := 6) rfl) k
theorem ixT7 {x0 x1 x2 x3 x4 x5 x6 : D} {ds : List D} {d : D} {S : Sto} {Q : DK} (k : Q d S) : fIx (.tup (x0 :: x1 :: x2 :: x3 :: x4 :: x5 :: x6 :: d :: ds)) (.int 7) S Q := ixT (atI_nat (j := 7) rfl) k
theorem ixL7 {x0 x1 x2 x3 x4 x5 x6 : D} {ds : List D} {d : D} {S : Sto} {Q : DK} (k : Q d S) : fIx (.lst (x0 :: x1 :: x2 :: x3 :: x4 :: x5 :: x6 :: d :: ds)) (.int 7) S Q := ixL (atI_nat (j := 7) rfl) k
theorem startup0 {r : List D} {gs : List Tg} {env : Ev} {S : Sto} {nx : Ev → Sto → Prop} (k : asgLK S gs [.lst r] env nx) : starK 0 0 gs (.tup (r)) env S nx := starG rfl (by simp) (by simp [starD]) k
theorem starlst0 {r : List D} {gs : List Tg} {env : Ev} {S : Sto} {nx : Ev → Sto → Prop} (k : asgLK S gs [.lst r] env nx) : starK 0 0 gs (.lst (r)) env S nx := starG rfl (by simp) (by simp [starD]) k
theorem startup1 {x0 : D} {r : List D} {gs : List Tg} {env : Ev} {S : Sto} {nx : Ev → Sto → Prop} (k : asgLK S gs [x0, .lst r] env nx) : starK 1 0 gs (.tup (x0 :: r)) env S nx := starG rfl (by simp) (by simp [starD]) k
theorem starlst1 {x0 : D} {r : List D} {gs : List Tg} {env : Ev} {S : Sto} {nx : Ev → Sto → Prop} (k : asgLK S gs [x0, .lst r] env nx) : starK 1 0 gs (.lst (x0 :: r)) env S nx := starG rfl (by simp) (by simp [starD]) k
theorem startup2 {x0 x1 : D} {r : List D} {gs : List Tg} {env : Ev} {S : Sto} {nx : Ev → Sto → Prop} (k : asgLK S gs [x0, x1, .lst r] env nx) : starK 2 0 gs (.tup (x0 :: x1 :: r)) env S nx := starG rfl (by simp) (by simp [starD]) k
theorem starlst2 {x0 x1 : D} {r : List D} {gs : List Tg} {env : Ev} {S : Sto} {nx : Ev → Sto → Prop} (k : asgLK S gs [x0, x1, .lst r] env nx) : starK 2 0 gs (.lst (x0 :: x1 :: r)) env S nx := starG rfl (by simp) (by simp [starD]) k
theorem startup3 {x0 x1 x2 : D} {r : List D} {gs : List Tg} {env : Ev} {S : Sto} {nx : Ev → Sto → Prop} (k : asgLK S gs [x0, x1, x2, .lst r] env nx) : starK 3 0 gs (.tup (x0 :: x1 :: x2 :: r)) env S nx := starG rfl (by simp) (by simp [starD]) k
theorem starlst3 {x0 x1 x2 : D} {r : List D} {gs : List Tg} {env : Ev} {S : Sto} {nx : Ev → Sto → Prop} (k : asgLK S gs [x0, x1, x2, .lst r] env nx) : starK 3 0 gs (.lst (x0 :: x1 :: x2 :: r)) env S nx := starG rfl (by simp) (by simp [starD]) k
theorem startup4 {x0 x1 x2 x3 : D} {r : List D} {gs : List Tg} {env : Ev} {S : Sto} {nx : Ev → Sto → Prop} (k : asgLK S gs [x0, x1, x2, x3, .lst r] env nx) : starK 4 0 gs (.tup (x0 :: x1 :: x2 :: x3 :: r)) env S nx := starG rfl (by simp) (by simp [starD]) k
theorem starlst4 {x0 x1 x2 x3 : D} {r : List D} {gs : List Tg} {env : Ev} {S : Sto} {nx : Ev → Sto → Prop} (k : asgLK S gs [x0, x1, x2, x3, .lst r] env nx) : starK 4 0 gs (.lst (x0 :: x1 :: x2 :: x3 :: r)) env S nx := starG rfl (by simp) (by simp [starD]) k
theorem entup0 {S : Sto} {Q : List D → Sto → Prop} (k : Q [] S) : enumK (.tup []) S Q := k
theorem enlst0 {S : Sto} {Q : List D → Sto → Prop} (k : Q [] S) : enumK (.lst []) S Q := k
theorem entup1 {x0 : D} {S : Sto} {Q : List D → Sto → Prop} (k : Q [.tup [.int 0, x0]] S) : enumK (.tup [x0]) S Q := k
theorem enlst1 {x0 : D} {S : Sto} {Q : List D → Sto → Prop} (k : Q [.tup [.int 0, x0]] S) : enumK (.lst [x0]) S Q := k
theorem entup2 {x0 x1 : D} {S : Sto} {Q : List D → Sto → Prop} (k : Q [.tup [.int 0, x0], .tup [.int 1, x1]] S) : enumK (.tup [x0, x1]) S Q := k
theorem enlst2 {x0 x1 : D} {S : Sto} {Q : List D → Sto → Prop} (k : Q [.tup [.int 0, x0], .tup [.int 1, x1]] S) : enumK (.lst [x0, x1]) S Q := k
theorem entup3 {x0 x1 x2 : D} {S : Sto} {Q : List D → Sto → Prop} (k : Q [.tup [.int 0, x0], .tup [.int 1, x1], .tup [.int 2, x2]] S) : enumK (.tup [x0, x1, x2]) S Q := k
theorem enlst3 {x0 x1 x2 : D} {S : Sto} {Q : List D → Sto → Prop} (k : Q [.tup [.int 0, x0], .tup [.int 1, x1], .tup [.int 2, x2]] S) : enumK (.lst [x0, x1, x2]) S Q := k
theorem entup4 {x0 x1 x2 x3 : D} {S : Sto} {Q : List D → Sto → Prop} (k : Q [.tup [.int 0, x0], .tup [.int 1, x1], .tup [.int 2, x2], .tup [.int 3, x3]] S) : enumK (.tup [x0, x1, x2, x3]) S Q := k
theorem enlst4 {x0 x1 x2 x3 : D} {S : Sto} {Q : List D → Sto → Prop} (k : Q [.tup [.int 0, x0], .tup [.int 1, x1], .tup [.int 2, x2], .tup [.int 3, x3]] S) : enumK (.lst [x0, x1, x2, x3]) S Q := k
theorem entup5 {x0 x1 x2 x3 x4 : D} {S : Sto} {Q : List D → Sto → Prop} (k : Q [.tup [.int 0, x0], .tup [.int 1, x1], .tup [.int 2, x2], .tup [.int 3, x3], .tup [.int 4, x4]] S) : enumK (.tup [x0, x1, x2, x3, x4]) S Q := k
theorem enlst5 {x0 x1 x2 x3 x4 : D} {S : Sto} {Q : List D → Sto → Prop} (k : Q [.tup [.int 0, x0], .tup [.int 1, x1], .tup [.int 2, x2], .tup [.int 3, x3], .tup [.int 4, x4]] S) : enumK (.lst [x0, x1, x2, x3, x4]) S Q := k
theorem entup6 {x0 x1 x2 x3 x4 x5 : D} {S : Sto} {Q : List D → Sto → Prop} (k : Q [.tup [.int 0, x0], .tup [.int 1, x1], .tup [.int 2, x2], .tup [.int 3, x3], .tup [.int 4, x4], .tup [.int 5, x5]] S) : enumK (.tup [x0, x1, x2, x3, x4, x5]) S Q := k
theorem enlst6 {x0 x1 x2 x3 x4 x5 : D} {S : Sto} {Q : List D → Sto → Prop} (k : Q [.tup [.int 0, x0], .tup [.int 1, x1], .tup [.int 2, x2], .tup [.int 3, x3], .tup [.int 4, x4], .tup [.int 5, x5]] S) : enumK (.lst [x0, x1, x2, x3, x4, x5]) S Q := k
theorem slfT1 {x0 : D} {r : List D} {S : Sto} {Q : DK} (k : Q (.tup r) S) : fSl (.tup (x0 :: r)) (some 1) none S Q := slT (by unfold Bl.cutD HT.sIx; simp) k
theorem sltT1 {x0 : D} {r : List D} {S : Sto} {Q : DK} (k : Q (.tup [x0]) S) : fSl (.tup (x0 :: r)) none (some 1) S Q := slT (by unfold Bl.cutD HT.sIx; simp) k
theorem slfT2 {x0 x1 : D} {r : List D} {S : Sto} {Q : DK} (k : Q (.tup r) S) : fSl (.tup (x0 :: x1 :: r)) (some 2) none S Q := slT (by unfold Bl.cutD HT.sIx; simp) k
theorem sltT2 {x0 x1 : D} {r : List D} {S : Sto} {Q : DK} (k : Q (.tup [x0, x1]) S) : fSl (.tup (x0 :: x1 :: r)) none (some 2) S Q := slT (by unfold Bl.cutD HT.sIx; simp) k
theorem slfT3 {x0 x1 x2 : D} {r : List D} {S : Sto} {Q : DK} (k : Q (.tup r) S) : fSl (.tup (x0 :: x1 :: x2 :: r)) (some 3) none S Q := slT (by unfold Bl.cutD HT.sIx; simp) k
theorem sltT3 {x0 x1 x2 : D} {r : List D} {S : Sto} {Q : DK} (k : Q (.tup [x0, x1, x2]) S) : fSl (.tup (x0 :: x1 :: x2 :: r)) none (some 3) S Q := slT (by unfold Bl.cutD HT.sIx; simp) k
theorem slfT4 {x0 x1 x2 x3 : D} {r : List D} {S : Sto} {Q : DK} (k : Q (.tup r) S) : fSl (.tup (x0 :: x1 :: x2 :: x3 :: r)) (some 4) none S Q := slT (by unfold Bl.cutD HT.sIx; simp) k
theorem sltT4 {x0 x1 x2 x3 : D} {r : List D} {S : Sto} {Q : DK} (k : Q (.tup [x0, x1, x2, x3]) S) : fSl (.tup (x0 :: x1 :: x2 :: x3 :: r)) none (some 4) S Q := slT (by unfold Bl.cutD HT.sIx; simp) k
theorem slfL1 {x0 : D} {r : List D} {S : Sto} {Q : DK} (k : Q (.lst r) S) : fSl (.lst (x0 :: r)) (some 1) none S Q := slL (by unfold Bl.cutD HT.sIx; simp) k
theorem sltL1 {x0 : D} {r : List D} {S : Sto} {Q : DK} (k : Q (.lst [x0]) S) : fSl (.lst (x0 :: r)) none (some 1) S Q := slL (by unfold Bl.cutD HT.sIx; simp) k
theorem slfL2 {x0 x1 : D} {r : List D} {S : Sto} {Q : DK} (k : Q (.lst r) S) : fSl (.lst (x0 :: x1 :: r)) (some 2) none S Q := slL (by unfold Bl.cutD HT.sIx; simp) k
theorem sltL2 {x0 x1 : D} {r : List D} {S : Sto} {Q : DK} (k : Q (.lst [x0, x1]) S) : fSl (.lst (x0 :: x1 :: r)) none (some 2) S Q := slL (by unfold Bl.cutD HT.sIx; simp) k
theorem slfL3 {x0 x1 x2 : D} {r : List D} {S : Sto} {Q : DK} (k : Q (.lst r) S) : fSl (.lst (x0 :: x1 :: x2 :: r)) (some 3) none S Q := slL (by unfold Bl.cutD HT.sIx; simp) k
theorem sltL3 {x0 x1 x2 : D} {r : List D} {S : Sto} {Q : DK} (k : Q (.lst [x0, x1, x2]) S) : fSl (.lst (x0 :: x1 :: x2 :: r)) none (some 3) S Q := slL (by unfold Bl.cutD HT.sIx; simp) k
theorem slfL4 {x0 x1 x2 x3 : D} {r : List D} {S : Sto} {Q : DK} (k : Q (.lst r) S) : fSl (.lst (x0 :: x1 :: x2 :: x3 :: r)) (some 4) none S Q := slL (by unfold Bl.cutD HT.sIx; simp) k
theorem sltL4 {x0 x1 x2 x3 : D} {r : List D} {S : Sto} {Q : DK} (k : Q (.lst [x0, x1, x2, x3]) S) : fSl (.lst (x0 :: x1 :: x2 :: x3 :: r)) none (some 4) S Q := slL (by unfold Bl.cutD HT.sIx; simp) k
theorem startup_2 {x0 x1 : D} {gs : List Tg} {env : Ev} {S : Sto} {nx : Ev → Sto → Prop} (k : asgLK S gs [.lst [], x0, x1] env nx) : starK 0 2 gs (.tup [x0, x1]) env S nx := starG rfl (by simp) rfl k
theorem starlst_2 {x0 x1 : D} {gs : List Tg} {env : Ev} {S : Sto} {nx : Ev → Sto → Prop} (k : asgLK S gs [.lst [], x0, x1] env nx) : starK 0 2 gs (.lst [x0, x1]) env S nx := starG rfl (by simp) rfl k
theorem startup_3 {x0 x1 x2 : D} {gs : List Tg} {env : Ev} {S : Sto} {nx : Ev → Sto → Prop} (k : asgLK S gs [.lst [x0], x1, x2] env nx) : starK 0 2 gs (.tup [x0, x1, x2]) env S nx := starG rfl (by simp) rfl k
theorem starlst_3 {x0 x1 x2 : D} {gs : List Tg} {env : Ev} {S : Sto} {nx : Ev → Sto → Prop} (k : asgLK S gs [.lst [x0], x1, x2] env nx) : starK 0 2 gs (.lst [x0, x1, x2]) env S nx := starG rfl (by simp) rfl k
theorem startup_4 {x0 x1 x2 x3 : D} {gs : List Tg} {env : Ev} {S : Sto} {nx : Ev → Sto → Prop} (k : asgLK S gs [.lst [x0, x1], x2, x3] env nx) : starK 0 2 gs (.tup [x0, x1, x2, x3]) env S nx := starG rfl (by simp) rfl k
theorem starlst_4 {x0 x1 x2 x3 : D} {gs : List Tg} {env : Ev} {S : Sto} {nx : Ev → Sto → Prop} (k : asgLK S gs [.lst [x0, x1], x2, x3] env nx) : starK 0 2 gs (.lst [x0, x1, x2, x3]) env S nx := starG rfl (by simp) rfl k
end Go

/-! list + list, whatever kind of list -/
namespace PySem.AutoSeq1
theorem list_add_any (l : Addr) (items : Array Value) (n : Nat) (b : Addr) (items2 : Array Value) (n2 : Nat) (s1 s2 : Array (Option Value)) (hc0 : items.size + items2.size ≤ sizeLine) :
    Meets (Builtin.«list.__add__» ⟨[.ref l, .ref b], []⟩) (fun _ R s => s.heap.get? l = some { cls := .type "list", dict := none, data := .seq items n, slots := s1 } ∧ s.heap.get? b = some { cls := .type "list", dict := none, data := .seq items2 n2, slots := s2 } ∧ R (.ok (.ret (Value.ref s.heap.objs.size))) { s with heap := s.heap.push { cls := Value.type "list", data := Data.seq (items ++ items2) }, toks := s.toks }) :=
  .of_wp fun prog w A R s h => by obtain ⟨hp, g, d, tk, os⟩ := s; obtain ⟨hl, hb, h⟩ := h; have f1 := idx_int; have f2 := sub_tuple_tuple; have f3 := sub_list_list; have f4 := sub_tuple_list; have f5 := sub_list_tuple; wp_walk using wpAny_loadPart' hl, wpAny_loadPart' hb; exact ⟨_, rfl, h⟩
end PySem.AutoSeq1
namespace Bl
open PySem PySem.Spec PyProof.Rows L2
section
variable {X : Cx}
def rCatL (K : PySem.W.Frag) : R2 := fun x y H Q => ∃ l b xs zs, x = .ref l ∧ y = .ref b ∧ SqL K H l xs ∧ SqL K H b zs ∧ xs.length + zs.length ≤ sizeLine ∧ ∀ p, H p = none → Q (.ref p) (upd H p (.lst (xs ++ zs)))
theorem op_catL : OpR X (binaryOp .Add) (rCatL X.K) := by
  intro pins s σ H x y v u Q I rx ry h
  obtain ⟨l, b, xs, zs, rfl, rfl, hH, hB, hz, q⟩ := h
  cases rx
  cases ry
  obtain ⟨its, r, ⟨o, n, e, c1, c2, c3⟩, _⟩ := I.list hH
  obtain ⟨its2, r2, ⟨o2, n2, e2, d1, d2, d3⟩, _⟩ := I.list hB
  obtain ⟨cls, dct, dat, sl⟩ := o
  obtain ⟨cls2, dct2, dat2, sl2⟩ := o2
  dsimp only at c1 c2 c3 d1 d2 d3
  subst c1 c2 c3 d1 d2 d3
  have l1 := r.length
  have l2 := r2.length
  refine PySem.concat_meets ⟨_, e, rfl⟩ ⟨_, e2, rfl⟩ PySem.noFill_list_add PySem.seq_list_add F.slot_list_add F.entry_list_add (F.args_list_add_2 _ _) (PySem.AutoSeq1.list_add_any _ _ _ _ _ _ _ _ (by rw [List.size_toArray, List.size_toArray]; omega)) ⟨e, e2, ?_⟩
  have ea : its.toArray ++ its2.toArray = (its ++ its2).toArray := by simp
  rw [ea]
  exact ⟨.ref _, _, I.lnew (t' := s.toks) (r.append r2) (by rw [List.length_append]; omega), rfl, q _ I.fresh⟩
def fCat : F2 := fun x y S Q => match x, y with
  | .lst a, .lst b => a.length + b.length ≤ sizeLine ∧ Q (.lst (a ++ b)) S
  | _, _ => False
theorem moCat : MoF2 fCat := by (intro x y S Q Q' h q; unfold fCat at q ⊢; split at q <;> first | exact h _ _ q | exact ⟨q.1, h _ _ q.2⟩ | exact ⟨q.1, q.2.1, h _ _ q.2.2⟩ | exact q.elim)
theorem lst_sq {K : Kz} {S : Sto} {H : Hp} {ds : List D} {v : V} (h : Rp K S H (.lst ds) v) : ∃ a vs, v = .ref a ∧ SqL K.K H a vs ∧ RpL K S H ds vs := by
  cases h with
  | lst h1 _ _ h2 => exact ⟨_, _, rfl, .inl h1, h2⟩
  | lstK h1 h2 => exact ⟨_, _, rfl, SqL.ofK h1, h2⟩
theorem opD_cat : OpD X (binaryOp .Add) fCat := by
  refine ⟨moCat, fun pins s σ H x y v u Q Z S dx dy I rx ry rs r1 r2 h => ?_⟩
  cases dx <;> first | exact h.elim | skip
  cases dy <;> first | exact h.elim | skip
  obtain ⟨a, vs, rfl, h1, p1⟩ := lst_sq r1
  obtain ⟨b, ws, rfl, h2, p2⟩ := lst_sq r2
  refine op_catL pins s σ H _ _ v u Q I rx ry ⟨_, _, _, _, rfl, rfl, h1, h2, by rw [← p1.length, ← p2.length]; exact h.1, fun p hp => ?_⟩
  obtain ⟨a1, r⟩ := Rp.newL rs hp (p1.append p2)
  exact h.2 _ _ a1 r
end
/-! ### sorted, of whole numbers, of a list that is grown too -/
end Bl

/-! zip with strict=True, zip of what is reversed: at the library's level. -/
namespace ZG
open PySem PySem.Spec PyProof.Rows RT
section
variable {prog : Program} {w : World} {A : Around} {E : Value → Shared → Prop} {s : Shared}
theorem nextOf_rev_item {it l : Addr} {i : Nat} {items : Array Value} {x : Value} {Q : Value → Shared → Prop} (hit : s.heap.IsRevIter it l (i : Int)) (hl : s.heap.IsList l items) (hx : items[i]? = some x)
    (hQ : ∀ h', h'.IsRevIter it l ((i : Int) - 1) → Heap.SameBut it s.heap h' → Q x { s with heap := h' }) : wpAny (model prog w) A (Builtin.SmallTypes.nextOf (.ref it)) Q E s := by
  obtain ⟨o, ho, hc, hd⟩ := id hit
  obtain ⟨ol, hol, _, nl, hdl⟩ := hl
  unfold Builtin.SmallTypes.nextOf
  refine wpAny_bind (wpAny_callSpecial?_slot (name := Str.ofString "__next__") hit.typeIs F.slot_lri_next
    (wpAny_call_entry F.slot_lri_next hit.typeIs F.entry_lri_next ?_ (F.args_lri_next_1 _)))
  unfold Builtin.«list_reverseiterator.__next__»
  refine wpAny_bind (wpAny_of_eq (a := (Value.ref it, [])) rfl ?_)
  try dsimp only
  refine wpAny_bind (wpAny_field ho hd (x := rawInt (i : Int)) rfl ?_)
  show wpAny _ _ (if (i : Int) < 0 then _ else _) _ _ s
  rw [if_neg (by omega)]
  show wpAny _ _ (field (.ref it) 0 >>= _) _ _ s
  refine wpAny_bind (wpAny_field ho hd (x := .ref l) rfl ?_)
  show wpAny _ _ (seqItems? (.ref l) >>= _) _ _ s
  refine wpAny_bind (wpAny_seqItems hol hdl ?_)
  simp only [Int.toNat_natCast, hx]
  refine wpAny_bind (wpAny_setField ho hd (by simp) ?_)
  first
  | refine wpAny_pure ⟨x, rfl, wpAny_pure (hQ _ ?_ (Heap.SameBut.update ..))⟩
  | refine wpAny_bind (wpAny_pure (wpAny_pure ⟨x, rfl, wpAny_pure (hQ _ ?_ (Heap.SameBut.update ..))⟩))
  exact ⟨_, Heap.get?_update_self _ ho (Obj.isFreed_of_fields (Obj.data_mapFields hd _)), (Obj.cls_mapFields ..).trans hc, by
    rw [Obj.data_mapFields hd]; simp⟩
theorem nextOf_rev_end {it l : Addr} {Q : Value → Shared → Prop} (hh : A.handled = none) (hit : s.heap.IsRevIter it l (-1))
    (hE : ∀ h' e, Heap.ExtBut it s.heap h' → (∃ o, h'.get? e = some o ∧ o.cls = .type "StopIteration") → E (.ref e) { s with heap := h' }) : wpAny (model prog w) A (Builtin.SmallTypes.nextOf (.ref it)) Q E s := by
  obtain ⟨o, ho, hc, hd⟩ := id hit
  unfold Builtin.SmallTypes.nextOf
  refine wpAny_bind (wpAny_callSpecial?_slot (name := Str.ofString "__next__") hit.typeIs F.slot_lri_next
    (wpAny_call_entry F.slot_lri_next hit.typeIs F.entry_lri_next ?_ (F.args_lri_next_1 _)))
  unfold Builtin.«list_reverseiterator.__next__»
  refine wpAny_bind (wpAny_of_eq (a := (Value.ref it, [])) rfl ?_)
  try dsimp only
  refine wpAny_bind (wpAny_field ho hd (x := rawInt (-1)) rfl ?_)
  show wpAny _ _ (if (-1 : Int) < 0 then _ else _) _ _ s
  rw [if_pos (by decide)]
  refine wpAny_bind (wpAny_rule ?_)
  first
  | show wpAny _ _ (newExc (.type "StopIteration") [] >>= _) _ _ _
  | (refine wpAny_bind ?_; show wpAny _ _ (newExc (.type "StopIteration") [] >>= _) _ _ _)
  refine wpAny_bind ?_
  simp only [newExc, newTuple]
  refine wpAny_bind (wpAny_newObj_type ?_ (by size_fits))
  refine wpAny_bind (m := firstArgMember _ _) (wpAny_of_eq (a := Value.none) (by first | rfl | (simp only [firstArgMember]; rfl)) ?_)
  refine wpAny_newObj_type ?_ (by size_fits)
  simp only [raiseNew]
  refine wpAny_bind (wpAny_handled ?_)
  first | rw [show A.in1.handled = none from hh] | rw [hh]
  refine wpAny_bind (wpAny_pure (wpAny_throw ?_))
  exact hE _ _ (((Heap.ExtBut.refl _ _).push _).push _) ⟨_, Heap.get?_push_size _ rfl, rfl⟩
theorem nextOf_rt_item {it t : Addr} {i : Nat} {items : Array Value} {x : Value} {Q : Value → Shared → Prop} (hit : IsRt s.heap it t (i : Int)) (ht : IsTup s.heap t items) (hx : items[i]? = some x) (hsz : items.size ≤ sizeLine)
    (hQ : ∀ h', IsRt h' it t ((i : Int) - 1) → Heap.SameBut it s.heap h' → Q x { s with heap := h', toks := s.toks + 1 }) : wpAny (model prog w) A (Builtin.SmallTypes.nextOf (.ref it)) Q E s := by
  obtain ⟨o, ho, hc, hd⟩ := id hit
  have hi : i < items.size := (Array.getElem?_eq_some_iff.mp hx).1
  have hT : s.TypeIs (.ref t) "tuple" := IsTup.typeOf' ht
  rw [sizeLine_eq] at hsz
  unfold Builtin.SmallTypes.nextOf
  refine wpAny_bind (wpAny_callSpecial?_slot (name := Str.ofString "__next__") hit.typeIs slot_rt_next
    (wpAny_call_entry slot_rt_next hit.typeIs entry_rt_next ?_ (args_rt_next _)))
  unfold Builtin.«reversed.__next__»
  refine wpAny_bind (wpAny_of_eq (a := (Value.ref it, [])) rfl ?_)
  try dsimp only
  refine wpAny_bind (wpAny_field ho hd (x := .ref t) rfl ?_)
  try dsimp only
  refine wpAny_bind (wpAny_field ho hd (x := rawInt (i : Int)) rfl ?_)
  show wpAny _ _ (if (i : Int) < 0 then _ else _) _ _ s
  rw [if_neg (by omega)]
  try dsimp only
  refine wpAny_bind (wpAny_specialOf hT get_tuple ?_)
  try dsimp only
  try rw [if_neg (by decide)]
  try dsimp only
  refine wpAny_bind (wpAny_mkInt ?_)
  refine wpAny_bind (wpAny_attempt ?_)
  have fin : seqIndex? (i : Int) items.size = some i := seqIndex_of (by omega) (by omega)
  refine PyProof.Rows.getItem_tuple (s := { s with toks := s.toks + 1 }) ht (by omega) (by omega) fin hx ?_
  try dsimp only
  refine wpAny_bind (wpAny_field (s := { s with toks := s.toks + 1 }) ho hd (x := rawInt (i : Int)) rfl ?_)
  try dsimp only
  refine wpAny_bind (wpAny_setField (s := { s with toks := s.toks + 1 }) ho hd (by simp) ?_)
  first
  | refine wpAny_pure ⟨x, rfl, wpAny_pure (hQ _ ?_ (Heap.SameBut.update ..))⟩
  | refine wpAny_bind (wpAny_pure (wpAny_pure ⟨x, rfl, wpAny_pure (hQ _ ?_ (Heap.SameBut.update ..))⟩))
  exact ⟨_, Heap.get?_update_self _ ho (Obj.isFreed_of_fields (Obj.data_mapFields hd _)), (Obj.cls_mapFields ..).trans hc, by
    rw [Obj.data_mapFields hd]; simp⟩
theorem nextOf_rt_end {it t : Addr} {Q : Value → Shared → Prop} (hh : A.handled = none) (hit : IsRt s.heap it t (-1))
    (hE : ∀ h' e, Heap.ExtBut it s.heap h' → (∃ o, h'.get? e = some o ∧ o.cls = .type "StopIteration") → E (.ref e) { s with heap := h' }) : wpAny (model prog w) A (Builtin.SmallTypes.nextOf (.ref it)) Q E s := by
  obtain ⟨o, ho, hc, hd⟩ := id hit
  unfold Builtin.SmallTypes.nextOf
  refine wpAny_bind (wpAny_callSpecial?_slot (name := Str.ofString "__next__") hit.typeIs slot_rt_next
    (wpAny_call_entry slot_rt_next hit.typeIs entry_rt_next ?_ (args_rt_next _)))
  unfold Builtin.«reversed.__next__»
  refine wpAny_bind (wpAny_of_eq (a := (Value.ref it, [])) rfl ?_)
  try dsimp only
  refine wpAny_bind (wpAny_field ho hd (x := .ref t) rfl ?_)
  try dsimp only
  refine wpAny_bind (wpAny_field ho hd (x := rawInt (-1)) rfl ?_)
  show wpAny _ _ (if (-1 : Int) < 0 then _ else _) _ _ s
  rw [if_pos (by decide)]
  try dsimp only
  refine wpAny_bind (wpAny_rule ?_)
  refine wpAny_bind ?_
  wp_delta
  refine wpAny_bind (wpAny_setField ho hd (by simp) ?_)
  have ho2 := Heap.get?_update_self (Obj.mapFields (·.setIfInBounds 1 (rawInt (-1)))) ho (Obj.isFreed_of_fields (Obj.data_mapFields hd _))
  refine wpAny_setField (s := { s with heap := s.heap.update it (Obj.mapFields (·.setIfInBounds 1 (rawInt (-1)))) }) ho2 (Obj.data_mapFields hd _) (by simp) ?_
  try dsimp only
  first
  | show wpAny _ _ (newExc (.type "StopIteration") [] >>= _) _ _ _
  | (refine wpAny_bind ?_; show wpAny _ _ (newExc (.type "StopIteration") [] >>= _) _ _ _)
  | (refine wpAny_bind ?_; wp_delta; show wpAny _ _ (newExc (.type "StopIteration") [] >>= _) _ _ _)
  refine wpAny_bind ?_
  simp only [newExc, newTuple]
  refine wpAny_bind (wpAny_newObj_type ?_ (by size_fits))
  refine wpAny_bind (m := firstArgMember _ _) (wpAny_of_eq (a := Value.none) (by first | rfl | (simp only [firstArgMember]; rfl)) ?_)
  refine wpAny_newObj_type ?_ (by size_fits)
  simp only [raiseNew]
  refine wpAny_bind (wpAny_handled ?_)
  first | rw [show A.in1.handled = none from hh] | rw [hh]
  refine wpAny_bind (wpAny_pure (wpAny_throw ?_))
  refine hE _ _ ?_ ⟨_, Heap.get?_push_size _ rfl, rfl⟩
  refine ((?_ : Heap.ExtBut it s.heap _).push _).push _
  exact fun b ob hb e => (Heap.get?_update_other _ _ (Ne.symm hb)).trans ((Heap.get?_update_other _ _ (Ne.symm hb)).trans e)
end
theorem draws_rev {prog : Program} {w : World} {A : Around} (hh : A.handled = none) (it l : Addr) (hne : l ≠ it) (items : Array Value) :
    Draws prog w A it [it, l] items.size (fun i v => items[items.size - 1 - i]? = some v) (fun i h => (i ≤ items.size ∧ h.IsRevIter it l ((items.size : Int) - 1 - (i : Int))) ∧ h.IsList l items) where
  live := fun _ _ st => let ⟨o, ho, _⟩ := st.1.2; ⟨o, ho⟩
  frame := fun _ _ _ st hk => ⟨⟨st.1.1, st.1.2.at fun o e => hk it (by simp) o e⟩, st.2.at fun o e => hk l (by simp) o e⟩
  item := fun i s Q E hi st hQ => by
    have e : (items.size : Int) - 1 - (i : Int) = ((items.size - 1 - i : Nat) : Int) := by omega
    have hit := st.1.2
    rw [e] at hit
    have hx : items[items.size - 1 - i]? = some (items[items.size - 1 - i]'(by omega)) := Array.getElem?_eq_getElem (by omega)
    refine nextOf_rev_item hit st.2 hx fun h' hit' hs' => ?_
    have e2 : ((items.size - 1 - i : Nat) : Int) - 1 = (items.size : Int) - 1 - ((i + 1 : Nat) : Int) := by omega
    rw [e2] at hit'
    exact hQ _ h' s.toks hx ⟨⟨hi, hit'⟩, st.2.extBut hs'.extBut hne⟩ hs'
  done := fun s Q E st hE => by
    have e : (items.size : Int) - 1 - (items.size : Int) = -1 := by omega
    have hit := st.1.2
    rw [e] at hit
    exact nextOf_rev_end hh hit hE
theorem draws_rt {prog : Program} {w : World} {A : Around} (hh : A.handled = none) (it t : Addr) (hne : t ≠ it) (items : Array Value) (hsz : items.size ≤ sizeLine) :
    Draws prog w A it [it, t] items.size (fun i v => items[items.size - 1 - i]? = some v) (fun i h => (i ≤ items.size ∧ IsRt h it t ((items.size : Int) - 1 - (i : Int))) ∧ IsTup h t items) where
  live := fun _ _ st => let ⟨o, ho, _⟩ := st.1.2; ⟨o, ho⟩
  frame := fun _ _ _ st hk => ⟨⟨st.1.1, st.1.2.at fun o e => hk it (by simp) o e⟩, let ⟨o, ho, r⟩ := st.2; ⟨o, hk t (by simp) o ho, r⟩⟩
  item := fun i s Q E hi st hQ => by
    have e : (items.size : Int) - 1 - (i : Int) = ((items.size - 1 - i : Nat) : Int) := by omega
    have hit := st.1.2
    rw [e] at hit
    have hx : items[items.size - 1 - i]? = some (items[items.size - 1 - i]'(by omega)) := Array.getElem?_eq_getElem (by omega)
    refine nextOf_rt_item hit st.2 hx hsz fun h' hit' hs' => ?_
    have e2 : ((items.size - 1 - i : Nat) : Int) - 1 = (items.size : Int) - 1 - ((i + 1 : Nat) : Int) := by omega
    rw [e2] at hit'
    exact hQ _ h' (s.toks + 1) hx ⟨⟨hi, hit'⟩, let ⟨o, ho, r⟩ := st.2; ⟨o, hs'.extBut _ _ hne ho, r⟩⟩ hs'
  done := fun s Q E st hE => by
    have e : (items.size : Int) - 1 - (items.size : Int) = -1 := by omega
    have hit := st.1.2
    rw [e] at hit
    exact nextOf_rt_end hh hit hE

/-! ### strict -/
abbrev IsZipS (h : Heap) (z TI TO : Addr) (f0 : Value) : Prop :=
  h.get? z = some { cls := .type "zip", dict := none, data := .fields #[f0, .bool false, .bool true, .ref TI, .ref TO], slots := #[] }
section
variable {prog : Program} {w : World} {A : Around} {E : Value → Shared → Prop} {s : Shared} {z TI TO i1 i2 : Addr} {fp1 fp2 : List Addr} {n1 n2 i : Nat} {P1 P2 : Nat → Value → Prop} {St1 St2 : Nat → Heap → Prop} {a1 a2 : Value}
theorem nextOrEnd_item {it : Addr} {fp : List Addr} {n : Nat} {P : Nat → Value → Prop} {St : Nat → Heap → Prop} (D : Draws prog w A it fp n P St) (hi : i < n) (st : St i s.heap) {Q : Option Value → Shared → Prop}
    (hQ : ∀ x h' tk, P i x → St (i + 1) h' → Heap.SameBut it s.heap h' → Q (some x) { s with heap := h', toks := tk }) : wpAny (model prog w) A (Builtin.SmallTypes.nextOrEnd (.ref it)) Q E s := by
  unfold Builtin.SmallTypes.nextOrEnd
  refine wpAny_bind (wpAny_attempt (D.item i s _ _ hi st fun x h' tk hx sn hp => ?_))
  exact wpAny_pure (hQ x h' tk hx sn hp)
theorem nextOrEnd_end {it : Addr} {fp : List Addr} {n : Nat} {P : Nat → Value → Prop} {St : Nat → Heap → Prop} (D : Draws prog w A it fp n P St) (st : St n s.heap) {Q : Option Value → Shared → Prop}
    (hQ : ∀ h', Heap.ExtBut it s.heap h' → Q none { s with heap := h' }) : wpAny (model prog w) A (Builtin.SmallTypes.nextOrEnd (.ref it)) Q E s := by
  unfold Builtin.SmallTypes.nextOrEnd
  refine wpAny_bind (wpAny_attempt (D.done s _ _ st fun h' e hk he => ?_))
  obtain ⟨o, ho, hc⟩ := he
  refine wpAny_bind (wpAny_isInstance (T := "StopIteration") (b := true) ⟨o, ho, hc⟩ isSubtype_stop ?_)
  exact wpAny_pure (hQ _ hk)
theorem zipS_next_item {Q : Value → Shared → Prop} (S : ZipSep2 z TI TO i1 i2 fp1 fp2) (D1 : Draws prog w A i1 fp1 n1 P1 St1) (D2 : Draws prog w A i2 fp2 n2 P2 St2)
    (hz : IsZipS s.heap z TI TO .none) (hTI : PySem.IsTupOf2 s.heap TI (.ref i1) (.ref i2)) (hTO : PySem.IsTupOf2 s.heap TO a1 a2) (st1 : St1 i s.heap) (st2 : St2 i s.heap) (hlt1 : i < n1) (hlt2 : i < n2)
    (hQ : ∀ x1 x2 h' tk, P1 i x1 → P2 i x2 → IsZipS h' z TI TO (rawInt s.heap.objs.size) → PySem.IsTupOf2 h' TO x1 x2 → St1 (i + 1) h' → St2 (i + 1) h' → PySem.IsTupOf2 h' s.heap.objs.size x1 x2 → h'.objs.size = s.heap.objs.size + 1 →
      (∀ c o, c ≠ z → c ≠ TO → c ≠ i1 → c ≠ i2 → s.heap.get? c = some o → h'.get? c = some o) → Q (.ref s.heap.objs.size) { s with heap := h', toks := tk }) :
    wpAny (model prog w) A (Builtin.«zip.__next__» ⟨[.ref z], []⟩) (fun fin s' => ∃ v, fin = .done (.ret v) ∧ Q v s') E s := by
  obtain ⟨hp, g, d, tk0, os⟩ := s
  show wpAny _ _ (field (.ref z) 2 >>= _) _ _ _
  refine wpAny_bind (wpAny_field hz rfl (x := .bool true) rfl ?_)
  show wpAny _ _ (field (.ref z) 3 >>= _) _ _ _
  refine wpAny_bind (wpAny_field hz rfl (x := .ref TI) rfl ?_)
  refine wpAny_bind (wpAny_seqItems hTI rfl ?_)
  show wpAny _ _ (Builtin.SmallTypes.ownedTupleIsFree (.ref z) >>= _) _ _ _
  refine wpAny_bind ?_
  unfold Builtin.SmallTypes.ownedTupleIsFree
  refine wpAny_bind (wpAny_field hz rfl (x := .none) rfl (wpAny_pure ?_))
  simp only [if_true]
  refine wpAny_bind (wpAny_rule ?_)
  refine wpAny_bind (wpAny_field hz rfl (x := .ref TO) rfl ?_)
  refine wpAny_bind (wpAny_setField_rec hz (by simp) fun g0 hz0 hs0 => ?_)
  replace hz0 : IsZipS g0 z TI TO .ellipsis := hz0
  replace hs0 : Heap.SameBut z hp g0 := hs0
  refine wpAny_bind ?_
  simp only [List.zipIdx_cons, List.zipIdx_nil, List.forIn_cons, List.forIn_nil]
  refine wpAny_bind (wpAny_bind (wpAny_onRaise ?_))
  show wpAny _ _ (Builtin.SmallTypes.nextOrEnd (.ref i1)) _ _ ⟨g0, g, d, tk0, os⟩
  refine nextOrEnd_item D1 hlt1 (D1.over st1 hs0 S.zf1) fun x1 p1 tk1 hx1 sn1 hp1 => ?_
  replace hp1 : Heap.SameBut i1 g0 p1 := hp1
  have hU1 : PySem.IsTupOf2 p1 TO a1 a2 := hp1.extBut _ _ S.Ti1 (hs0.extBut _ _ S.TOz hTO)
  refine wpAny_bind (wpAny_seqItems (s := ⟨p1, g, d, tk1, os⟩) hU1 rfl ?_)
  refine wpAny_bind (updateSeq_IsTupOf2 (s := ⟨p1, g, d, tk1, os⟩) hU1 fun g1 hT1 hs1 => ?_)
  replace hT1 : PySem.IsTupOf2 g1 TO x1 a2 := hT1
  replace hs1 : Heap.SameBut TO p1 g1 := hs1
  refine wpAny_bind (wpAny_letGo (wpAny_pure ?_))
  refine wpAny_bind (wpAny_bind (wpAny_onRaise ?_))
  show wpAny _ _ (Builtin.SmallTypes.nextOrEnd (.ref i2)) _ _ ⟨g1, g, d, tk1, os⟩
  refine nextOrEnd_item D2 hlt2 (D2.over (D2.over (D2.over st2 hs0 S.zf2) hp1 S.sep1_2) hs1 S.Tf2) fun x2 p2 tk2 hx2 sn2 hp2 => ?_
  replace hp2 : Heap.SameBut i2 g1 p2 := hp2
  have hU2 : PySem.IsTupOf2 p2 TO x1 a2 := hp2.extBut _ _ S.Ti2 hT1
  refine wpAny_bind (wpAny_seqItems (s := ⟨p2, g, d, tk2, os⟩) hU2 rfl ?_)
  refine wpAny_bind (updateSeq_IsTupOf2 (s := ⟨p2, g, d, tk2, os⟩) hU2 fun g2 hT2 hs2 => ?_)
  replace hT2 : PySem.IsTupOf2 g2 TO x1 x2 := hT2
  replace hs2 : Heap.SameBut TO p2 g2 := hs2
  refine wpAny_bind (wpAny_letGo (wpAny_pure (wpAny_pure ?_)))
  refine wpAny_bind (wpAny_seqItems (s := ⟨g2, g, d, tk2, os⟩) hT2 rfl ?_)
  refine wpAny_bind (wpAny_newTuple ?_)
  have hsz : g2.objs.size = hp.objs.size := by rw [hs2.1, hp2.1, hs1.1, hp1.1, hs0.1]
  have hzz : IsZipS g2 z TI TO .ellipsis := (hs2.extBut _ _ S.TOz.symm (hp2.extBut _ _ S.zi2 (hs1.extBut _ _ S.TOz.symm (hp1.extBut _ _ S.zi1 hz0))))
  have hkk : ∀ c o, c ≠ z → c ≠ TO → c ≠ i1 → c ≠ i2 → hp.get? c = some o → g2.get? c = some o := fun c o cz cT c1 c2 e =>
    (hs2.extBut _ _ cT (hp2.extBut _ _ c2 (hs1.extBut _ _ cT (hp1.extBut _ _ c1 (hs0.extBut _ _ cz e)))))
  have hj1 : St1 (i + 1) g2 := (D1.over (D1.over (D1.over sn1 hs1 S.Tf1) hp2 S.sep2_1) hs2 S.Tf1)
  have hj2 : St2 (i + 1) g2 := (D2.over sn2 hs2 S.Tf2)
  have hzlt : z < g2.objs.size := Heap.lt_size hzz
  show wpAny _ _ (Builtin.SmallTypes.ownedTupleHandOut (.ref z) (.ref g2.objs.size) >>= _) _ _ ⟨g2.push { cls := .type "tuple", data := .seq #[x1, x2] }, g, d, tk2, os⟩
  refine wpAny_bind ?_
  unfold Builtin.SmallTypes.ownedTupleHandOut
  have hz₆ : IsZipS (g2.push { cls := .type "tuple", data := .seq #[x1, x2] }) z TI TO .ellipsis := Heap.get?_push_of_some _ hzz
  refine wpAny_bind (wpAny_setField_rec hz₆ (by simp) fun h₇ hz₇ hs₇ => ?_)
  replace hz₇ : IsZipS h₇ z TI TO (rawInt g2.objs.size) := hz₇
  refine wpAny_setField_rec hz₇ (by simp) fun h₈ hz₈ hs₈ => ?_
  replace hz₈ : IsZipS h₈ z TI TO (rawInt g2.objs.size) := hz₈
  replace hs₇ : Heap.SameBut z (g2.push { cls := .type "tuple", data := .seq #[x1, x2] }) h₇ := hs₇
  replace hs₈ : Heap.SameBut z h₇ h₈ := hs₈
  have up : ∀ c o, c ≠ z → g2.get? c = some o → h₈.get? c = some o := fun c o c1 e => hs₈.extBut _ _ c1 (hs₇.extBut _ _ c1 (Heap.get?_push_of_some _ e))
  have hT₈ : PySem.IsTupOf2 h₈ g2.objs.size x1 x2 := hs₈.extBut _ _ (Nat.ne_of_gt hzlt) (hs₇.extBut _ _ (Nat.ne_of_gt hzlt) (Heap.get?_push_size _ rfl))
  have hz8 : h₈.objs.size = g2.objs.size + 1 := by rw [hs₈.1, hs₇.1, Heap.size_push]
  rw [hsz] at hz₈ hT₈ hz8
  refine wpAny_pure ⟨_, rfl, ?_⟩
  show Q (.ref g2.objs.size) ⟨h₈, g, d, tk2, os⟩
  rw [hsz]
  exact hQ x1 x2 h₈ tk2 hx1 hx2 hz₈ (up _ _ S.TOz hT2) (D1.frame _ _ _ hj1 fun b hb o e => up b o (fun q => S.zf1 (q ▸ hb)) e) (D2.frame _ _ _ hj2 fun b hb o e => up b o (fun q => S.zf2 (q ▸ hb)) e) hT₈ hz8 fun c o cz cT c1 c2 e => up c o cz (hkk c o cz cT c1 c2 e)

theorem zipS_next_end {Q : Fin → Shared → Prop} (S : ZipSep2 z TI TO i1 i2 fp1 fp2) (hh : A.handled = none) (D1 : Draws prog w A i1 fp1 i P1 St1) (D2 : Draws prog w A i2 fp2 i P2 St2)
    (hz : IsZipS s.heap z TI TO .none) (hTI : PySem.IsTupOf2 s.heap TI (.ref i1) (.ref i2)) (hTO : PySem.IsTupOf2 s.heap TO a1 a2) (st1 : St1 i s.heap) (st2 : St2 i s.heap)
    (hE : ∀ h' tk e, (∀ c o, c ≠ z → c ≠ TO → c ≠ i1 → c ≠ i2 → s.heap.get? c = some o → h'.get? c = some o) → (∃ o, h'.get? e = some o ∧ o.cls = .type "StopIteration") → E (.ref e) { s with heap := h', toks := tk }) :
    wpAny (model prog w) A (Builtin.«zip.__next__» ⟨[.ref z], []⟩) Q E s := by
  obtain ⟨hp, g, d, tk0, os⟩ := s
  show wpAny _ _ (field (.ref z) 2 >>= _) _ _ _
  refine wpAny_bind (wpAny_field hz rfl (x := .bool true) rfl ?_)
  show wpAny _ _ (field (.ref z) 3 >>= _) _ _ _
  refine wpAny_bind (wpAny_field hz rfl (x := .ref TI) rfl ?_)
  refine wpAny_bind (wpAny_seqItems hTI rfl ?_)
  show wpAny _ _ (Builtin.SmallTypes.ownedTupleIsFree (.ref z) >>= _) _ _ _
  refine wpAny_bind ?_
  unfold Builtin.SmallTypes.ownedTupleIsFree
  refine wpAny_bind (wpAny_field hz rfl (x := .none) rfl (wpAny_pure ?_))
  simp only [if_true]
  refine wpAny_bind (wpAny_rule ?_)
  refine wpAny_bind (wpAny_field hz rfl (x := .ref TO) rfl ?_)
  refine wpAny_bind (wpAny_setField_rec hz (by simp) fun g0 hz0 hs0 => ?_)
  replace hz0 : IsZipS g0 z TI TO .ellipsis := hz0
  replace hs0 : Heap.SameBut z hp g0 := hs0
  refine wpAny_bind ?_
  simp only [List.zipIdx_cons, List.zipIdx_nil, List.forIn_cons, List.forIn_nil]
  refine wpAny_bind (wpAny_bind (wpAny_onRaise ?_))
  show wpAny _ _ (Builtin.SmallTypes.nextOrEnd (.ref i1)) _ _ ⟨g0, g, d, tk0, os⟩
  refine nextOrEnd_end D1 (D1.over st1 hs0 S.zf1) fun q hq => ?_
  replace hq : Heap.ExtBut i1 g0 q := hq
  have hzq : IsZipS q z TI TO .ellipsis := hq _ _ S.zi1 hz0
  refine wpAny_bind (wpAny_setField_rec (s := ⟨q, g, d, tk0, os⟩) hzq (by simp) fun q' hz' hq' => ?_)
  replace hq' : Heap.SameBut z q q' := hq'
  refine wpAny_bind ?_
  show wpAny _ _ (forIn [((Value.ref i2), 1)] _ _ >>= _) _ _ ⟨q', g, d, tk0, os⟩
  simp only [List.forIn_cons, List.forIn_nil]
  refine wpAny_bind (wpAny_bind (wpAny_bind (nextOrEnd_end (s := ⟨q', g, d, tk0, os⟩) D2 (D2.over (D2.frame _ _ _ (D2.over st2 hs0 S.zf2) fun b hb o e => hq b o (fun x => S.sep1_2 (x ▸ hb)) e) hq' S.zf2) fun p hp' => ?_)))
  replace hp' : Heap.ExtBut i2 q' p := hp'
  rw [if_neg (by decide)]
  refine wpAny_pure ?_
  dsimp only
  refine wpAny_pure ?_
  refine wpAny_bind (wpAny_rule ?_)
  show wpAny _ _ (newExc (.type "StopIteration") [] >>= _) _ _ _
  refine wpAny_bind ?_
  simp only [newExc, newTuple]
  refine wpAny_bind (wpAny_newObj_type ?_ (by size_fits))
  refine wpAny_bind (m := firstArgMember _ _) (wpAny_of_eq (a := Value.none) (by first | rfl | (simp only [firstArgMember]; rfl)) ?_)
  refine wpAny_newObj_type ?_ (by size_fits)
  simp only [raiseNew]
  refine wpAny_bind (wpAny_handled ?_)
  first | rw [show A.in1.handled = none from hh] | rw [hh]
  refine wpAny_bind (wpAny_pure (wpAny_throw ?_))
  exact hE _ _ _ (fun c o cz cT c1 c2 x => Heap.get?_push_of_some _ (Heap.get?_push_of_some _ (hp' _ _ c2 (hq'.extBut _ _ cz (hq _ _ c1 (hs0.extBut _ _ cz x)))))) ⟨_, Heap.get?_push_size _ rfl, rfl⟩

theorem pyNext_zipS_item {Q : Option Value → Shared → Prop} (S : ZipSep2 z TI TO i1 i2 fp1 fp2) (D1 : Draws prog w A.in1 i1 fp1 n1 P1 St1) (D2 : Draws prog w A.in1 i2 fp2 n2 P2 St2)
    (hz : IsZipS s.heap z TI TO .none) (hTI : PySem.IsTupOf2 s.heap TI (.ref i1) (.ref i2)) (hTO : PySem.IsTupOf2 s.heap TO a1 a2) (st1 : St1 i s.heap) (st2 : St2 i s.heap) (hlt1 : i < n1) (hlt2 : i < n2)
    (hQ : ∀ x1 x2 h' tk, P1 i x1 → P2 i x2 → IsZipS h' z TI TO (rawInt s.heap.objs.size) → PySem.IsTupOf2 h' TO x1 x2 → St1 (i + 1) h' → St2 (i + 1) h' → PySem.IsTupOf2 h' s.heap.objs.size x1 x2 → h'.objs.size = s.heap.objs.size + 1 →
      (∀ c o, c ≠ z → c ≠ TO → c ≠ i1 → c ≠ i2 → s.heap.get? c = some o → h'.get? c = some o) → Q (some (.ref s.heap.objs.size)) { s with heap := h', toks := tk }) :
    wpAny (model prog w) A (pyNext (.ref z)) Q E s := by
  have hT : s.TypeIs (.ref z) "zip" := ⟨_, hz, rfl⟩
  unfold pyNext
  exact wpAny_bind (wpAny_attempt (wpAny_callSpecial?_slot (name := Str.ofString "__next__") hT F.slot_zip_next
    (wpAny_call_entry F.slot_zip_next hT F.entry_zip_next
      (zipS_next_item S D1 D2 hz hTI hTO st1 st2 hlt1 hlt2 fun x1 x2 h' tk y1 y2 b1 b2 d1 d2 b5 b6 b7 => wpAny_pure (hQ x1 x2 h' tk y1 y2 b1 b2 d1 d2 b5 b6 b7)) (F.args_zip_next_1 _))))
theorem pyNext_zipS_end {Q : Option Value → Shared → Prop} (S : ZipSep2 z TI TO i1 i2 fp1 fp2) (hh : A.handled = none) (D1 : Draws prog w A.in1 i1 fp1 i P1 St1) (D2 : Draws prog w A.in1 i2 fp2 i P2 St2)
    (hz : IsZipS s.heap z TI TO .none) (hTI : PySem.IsTupOf2 s.heap TI (.ref i1) (.ref i2)) (hTO : PySem.IsTupOf2 s.heap TO a1 a2) (st1 : St1 i s.heap) (st2 : St2 i s.heap)
    (hQ : ∀ h' tk, (∀ c o, c ≠ z → c ≠ TO → c ≠ i1 → c ≠ i2 → s.heap.get? c = some o → h'.get? c = some o) → Q none { s with heap := h', toks := tk }) : wpAny (model prog w) A (pyNext (.ref z)) Q E s := by
  have hT : s.TypeIs (.ref z) "zip" := ⟨_, hz, rfl⟩
  unfold pyNext
  refine wpAny_bind (wpAny_attempt (wpAny_callSpecial?_slot (name := Str.ofString "__next__") hT F.slot_zip_next
    (wpAny_call_entry F.slot_zip_next hT F.entry_zip_next (zipS_next_end S hh D1 D2 hz hTI hTO st1 st2 fun h' tk e hk he => ?_) (F.args_zip_next_1 _))))
  obtain ⟨o, ho, hc⟩ := he
  refine wpAny_bind (wpAny_isInstance (T := "StopIteration") (b := true) ⟨o, ho, hc⟩ isSubtype_stop ?_)
  exact wpAny_pure (hQ _ _ hk)
/-- a zip, strict or not -/
def IsZ (b : Bool) (h : Heap) (z TI TO : Addr) (f0 : Value) : Prop :=
  h.get? z = some { cls := .type "zip", dict := none, data := .fields #[f0, .bool false, .bool b, .ref TI, .ref TO], slots := #[] }
theorem pyNext_z_item {b : Bool} {Q : Option Value → Shared → Prop} (S : ZipSep2 z TI TO i1 i2 fp1 fp2) (D1 : Draws prog w A.in1 i1 fp1 n1 P1 St1) (D2 : Draws prog w A.in1 i2 fp2 n2 P2 St2)
    (hz : IsZ b s.heap z TI TO .none) (hTI : PySem.IsTupOf2 s.heap TI (.ref i1) (.ref i2)) (hTO : PySem.IsTupOf2 s.heap TO a1 a2) (st1 : St1 i s.heap) (st2 : St2 i s.heap) (hlt1 : i < n1) (hlt2 : i < n2)
    (hQ : ∀ x1 x2 h' tk, P1 i x1 → P2 i x2 → IsZ b h' z TI TO (rawInt s.heap.objs.size) → PySem.IsTupOf2 h' TO x1 x2 → St1 (i + 1) h' → St2 (i + 1) h' → PySem.IsTupOf2 h' s.heap.objs.size x1 x2 → h'.objs.size = s.heap.objs.size + 1 →
      (∀ c o, c ≠ z → c ≠ TO → c ≠ i1 → c ≠ i2 → s.heap.get? c = some o → h'.get? c = some o) → Q (some (.ref s.heap.objs.size)) { s with heap := h', toks := tk }) :
    wpAny (model prog w) A (pyNext (.ref z)) Q E s := by
  cases b with
  | false => exact wpAny_pyNext_zipD2_item S D1 D2 hz hTI hTO st1 st2 hlt1 hlt2 hQ
  | true => exact pyNext_zipS_item S D1 D2 hz hTI hTO st1 st2 hlt1 hlt2 hQ
theorem pyNext_z_end {b : Bool} {Q : Option Value → Shared → Prop} (S : ZipSep2 z TI TO i1 i2 fp1 fp2) (hh : A.handled = none) (D1 : Draws prog w A.in1 i1 fp1 n1 P1 St1) (D2 : Draws prog w A.in1 i2 fp2 n2 P2 St2)
    (hz : IsZ b s.heap z TI TO .none) (hTI : PySem.IsTupOf2 s.heap TI (.ref i1) (.ref i2)) (hTO : PySem.IsTupOf2 s.heap TO a1 a2) (st1 : St1 i s.heap) (st2 : St2 i s.heap) (hle1 : i ≤ n1) (hle2 : i ≤ n2) (hend : i = n1 ∨ i = n2) (hb : b = true → n1 = n2)
    (hQ : ∀ h' tk, (∀ c o, c ≠ z → c ≠ TO → c ≠ i1 → c ≠ i2 → s.heap.get? c = some o → h'.get? c = some o) → Q none { s with heap := h', toks := tk }) : wpAny (model prog w) A (pyNext (.ref z)) Q E s := by
  cases b with
  | false => exact wpAny_pyNext_zipD2_end S D1 D2 hz hTI hTO st1 st2 hle1 hle2 hend hQ
  | true =>
    have e := hb rfl
    subst e
    obtain rfl : i = n1 := by rcases hend with h | h <;> exact h
    exact pyNext_zipS_end S hh D1 D2 hz hTI hTO st1 st2 hQ
theorem z_go {b : Bool} {T : Addr} {elts : List Expr} {x1 : Nat} {pos : Pos} {Q : Unit → Shared → Prop} (hz : IsZ b s.heap z TI TO (rawInt T))
    (hQ : ∀ h', IsZ b h' z TI TO .none → Heap.SameBut z s.heap h' → Q () { s with heap := h' }) :
    wpAny (model prog w) A (letOwnedTupleGo (.Tuple elts x1 pos) (.ref z) (.ref T)) Q E s := by
  unfold letOwnedTupleGo
  refine wpAny_bind (wpAny_load hz ?_)
  show wpAny _ _ (if (["enumerate", "zip", "dict_itemiterator", "dict_reverseitemiterator", "odict_iterator", "itertools.zip_longest", "itertools.pairwise"].contains "zip" &&
      (#[rawInt T, .bool false, .bool b, .ref TI, .ref TO] : Array Value)[0]? == some (rawInt T)) = true then _ else _) Q E s
  rw [if_pos (by simp)]
  refine wpAny_bind (wpAny_rule ?_)
  show wpAny _ _ (setField (.ref z) 0 .none) Q E s
  exact wpAny_setField_rec hz (by simp) fun h' hz' hs' => hQ h' hz' hs'
theorem z_self {b : Bool} {f0 : Value} {Q : Value → Shared → Prop} (hz : IsZ b s.heap z TI TO f0) (h : Q (.ref z) s) : wpAny (model prog w) A (pyIter (.ref z)) Q E s := by
  have hT : s.TypeIs (.ref z) "zip" := ⟨_, hz, rfl⟩
  refine wpAny_pyIter_slot hT F.slot_zip_iter (wpAny_call_entry F.slot_zip_iter hT F.entry_zip_iter ?_ (F.args_zip_iter_1 _))
  show wpAny _ _ (ret (.ref z)) _ _ s
  exact wpAny_pure ⟨_, rfl, "zip", _, hT, F.slot_zip_next.lookup, h⟩
end
/-! ### zip(a, b, strict=True), a and b lists or tuples -/
theorem typeCall_zip_kw (a b c : Value) : checkTypeCall "zip" ⟨[a, b], [(Str.ofString "strict", c)]⟩ = pure () := by kernel_rfl
theorem newCall_zip_kw (a b c : Value) : checkBuiltinCall "zip.__new__" ⟨[.type "zip", a, b], [(Str.ofString "strict", c)]⟩ = pure () := by kernel_rfl
theorem args_object_init_kw (obj a b c : Value) : argsOk "object.__init__" ⟨[obj, a, b], [(Str.ofString "strict", c)]⟩ := by unfold argsOk; kernel_rfl
/-- an iterator begins over v: the object that is laid -/
structure Beg (v : Value) (o : Obj) (Hs : Heap → Prop) : Prop where
  iter : ∀ (prog : Program) (w : World) (A : Around) (E : Value → Shared → Prop) (s : Shared) (Q : Value → Shared → Prop), Hs s.heap → Q (.ref s.heap.objs.size) { s with heap := s.heap.push o } → wpAny (model prog w) A (pyIter v) Q E s
  up : ∀ (h : Heap) (o' : Obj), Hs h → Hs (h.push o')
  free : o.isFreed = false
theorem beg_list {l : Addr} {xs : Array Value} : Beg (.ref l) { cls := .type "list_iterator", data := .fields #[.ref l, .int 0 0] } (fun h => h.IsList l xs) :=
  ⟨fun _ _ _ _ _ _ h q => wpAny_pyIter_list h q, fun _ _ h => Heap.IsList.push h _, rfl⟩
theorem beg_tuple {l : Addr} {xs : Array Value} : Beg (.ref l) { cls := .type "tuple_iterator", data := .fields #[.ref l, .int 0 0] } (fun h => h.IsTuple l xs) :=
  ⟨fun _ _ _ _ _ _ h q => wpAny_pyIter_tuple h q, fun _ _ h => Heap.IsTuple.push h _, rfl⟩
abbrev zk3 (h : Heap) (o1 o2 : Obj) : Heap := ((h.push o1).push o2).push { cls := .type "tuple", data := .seq #[.ref h.objs.size, .ref (h.push o1).objs.size] }
abbrev zk4 (h : Heap) (o1 o2 : Obj) : Heap := (zk3 h o1 o2).push { cls := .type "tuple", data := .seq #[.none, .none] }
abbrev zk5 (b : Bool) (h : Heap) (o1 o2 : Obj) : Heap := (zk4 h o1 o2).push { cls := .type "zip", data := .fields #[.none, .bool false, .bool b, .ref ((h.push o1).push o2).objs.size, .ref (zk3 h o1 o2).objs.size] }
theorem meets_zip_kw {v1 v2 : Value} {o1 o2 : Obj} {H1 H2 : Heap → Prop} (B1 : Beg v1 o1 H1) (B2 : Beg v2 o2 H2) :
    Meets (Builtin.«zip.__new__» ⟨[.type "zip", v1, v2], [(Str.ofString "strict", .bool true)]⟩) (fun _ R s => H1 s.heap ∧ H2 s.heap ∧
      R (.ok (.ret (.ref (zk4 s.heap o1 o2).objs.size))) { s with heap := zk5 true s.heap o1 o2 }) :=
  .of_wp fun prog w A R s h => by
    obtain ⟨hp, g, d, tk, os⟩ := s; obtain ⟨hl1, hl2, h⟩ := h
    have hsub := sub_zip
    have e1 : (Str.ofString "strict" != ("strict" : Str)) = false := by decide +kernel
    have q1 : ∀ {A' : Around} {E : Value → Shared → Prop} {Q : Value → Shared → Prop}, Q (.ref hp.objs.size) ⟨hp.push o1, g, d, tk, os⟩ → wpAny (model prog w) A' (pyIter v1) Q E ⟨hp, g, d, tk, os⟩ :=
      fun q => B1.iter prog w _ _ ⟨hp, g, d, tk, os⟩ _ hl1 q
    have q2 : ∀ {A' : Around} {E : Value → Shared → Prop} {Q : Value → Shared → Prop}, Q (.ref (hp.push o1).objs.size) ⟨(hp.push o1).push o2, g, d, tk, os⟩ → wpAny (model prog w) A' (pyIter v2) Q E ⟨hp.push o1, g, d, tk, os⟩ :=
      fun q => B2.iter prog w _ _ ⟨hp.push o1, g, d, tk, os⟩ _ (B2.up _ _ hl2) q
    wp_walk using q1, q2
    exact ⟨_, rfl, h⟩
end ZG

namespace ZG
open PySem PySem.Spec PyProof.Rows RT
section
variable {prog : Program} {w : World} {A : Around} {E : Value → Shared → Prop} {s : Shared}
theorem call_zip_kw {v1 v2 : Value} {o1 o2 : Obj} {H1 H2 : Heap → Prop} (B1 : Beg v1 o1 H1) (B2 : Beg v2 o2 H2) (h1 : H1 s.heap) (h2 : H2 s.heap) {Q : Value → Shared → Prop}
    (h : ∀ h', IsZ true h' (s.heap.objs.size + 4) (s.heap.objs.size + 2) (s.heap.objs.size + 3) .none → PySem.IsTupOf2 h' (s.heap.objs.size + 2) (.ref s.heap.objs.size) (.ref (s.heap.objs.size + 1)) →
      PySem.IsTupOf2 h' (s.heap.objs.size + 3) .none .none → h'.get? s.heap.objs.size = some o1 → h'.get? (s.heap.objs.size + 1) = some o2 → h'.objs.size = s.heap.objs.size + 5 →
      (∀ c o, s.heap.get? c = some o → h'.get? c = some o) → Q (.ref (s.heap.objs.size + 4)) { s with heap := h' }) :
    wpAny (model prog w) A (call (.type "zip") [v1, v2] [(Str.ofString "strict", .bool true)]) Q E s := by
  refine callType_newKw F.called_zip (by decide) (typeCall_zip_kw _ _ _) (newCall_zip_kw _ _ _) (fun obj => args_object_init_kw obj _ _ _) F.entry_zip_new
    (meets_zip_kw B1 B2) ⟨h1, h2, ?_⟩
  have z1 : (s.heap.push o1).objs.size = s.heap.objs.size + 1 := Heap.size_push ..
  have z2 : ((s.heap.push o1).push o2).objs.size = s.heap.objs.size + 2 := by rw [Heap.size_push, z1]
  have z3 : (zk3 s.heap o1 o2).objs.size = s.heap.objs.size + 3 := by rw [Heap.size_push, z2]
  have z4 : (zk4 s.heap o1 o2).objs.size = s.heap.objs.size + 4 := by rw [Heap.size_push, z3]
  have z5 : (zk5 true s.heap o1 o2).objs.size = s.heap.objs.size + 5 := by rw [Heap.size_push, z4]
  have g5 : (zk5 true s.heap o1 o2).get? (zk4 s.heap o1 o2).objs.size = some _ := Heap.get?_push_size _ rfl
  have g4 : (zk5 true s.heap o1 o2).get? (zk3 s.heap o1 o2).objs.size = some _ := Heap.get?_push_of_some _ (Heap.get?_push_size _ rfl)
  have g3 : (zk5 true s.heap o1 o2).get? ((s.heap.push o1).push o2).objs.size = some _ := Heap.get?_push_of_some _ (Heap.get?_push_of_some _ (Heap.get?_push_size _ rfl))
  have g2 : (zk5 true s.heap o1 o2).get? (s.heap.push o1).objs.size = some _ := Heap.get?_push_of_some _ (Heap.get?_push_of_some _ (Heap.get?_push_of_some _ (Heap.get?_push_size _ B2.free)))
  have g1 : (zk5 true s.heap o1 o2).get? s.heap.objs.size = some _ := Heap.get?_push_of_some _ (Heap.get?_push_of_some _ (Heap.get?_push_of_some _ (Heap.get?_push_of_some _ (Heap.get?_push_size _ B1.free))))
  show _ ∧ _
  rw [z2, z3, z4] at g5
  rw [z1, z2] at g3
  rw [z3] at g4
  rw [z1] at g2
  rw [z4]
  exact ⟨⟨_, g5, rfl⟩, h _ g5 g3 g4 g1 g2 z5 fun c o x =>
    Heap.get?_push_of_some _ (Heap.get?_push_of_some _ (Heap.get?_push_of_some _ (Heap.get?_push_of_some _ (Heap.get?_push_of_some _ x))))⟩
end
/-! ### zip(reversed(a), reversed(b)) -/
abbrev zr1 (h : Heap) (i1 i2 : Addr) : Heap := h.push { cls := .type "tuple", data := .seq #[.ref i1, .ref i2] }
abbrev zr2 (h : Heap) (i1 i2 : Addr) : Heap := (zr1 h i1 i2).push { cls := .type "tuple", data := .seq #[.none, .none] }
abbrev zr3 (h : Heap) (i1 i2 : Addr) : Heap := (zr2 h i1 i2).push { cls := .type "zip", data := .fields #[.none, .bool false, .bool false, .ref h.objs.size, .ref (zr1 h i1 i2).objs.size] }
/-- an iterator that is its own -/
structure Own (i : Addr) (Hs : Heap → Prop) : Prop where
  iter : ∀ (prog : Program) (w : World) (A : Around) (E : Value → Shared → Prop) (s : Shared) (Q : Value → Shared → Prop), Hs s.heap → Q (.ref i) s → wpAny (model prog w) A (pyIter (.ref i)) Q E s
theorem meets_zip_own {i1 i2 : Addr} {H1 H2 : Heap → Prop} (B1 : Own i1 H1) (B2 : Own i2 H2) :
    Meets (Builtin.«zip.__new__» ⟨[.type "zip", .ref i1, .ref i2], []⟩) (fun _ R s => H1 s.heap ∧ H2 s.heap ∧
      R (.ok (.ret (.ref (zr2 s.heap i1 i2).objs.size))) { s with heap := zr3 s.heap i1 i2 }) :=
  .of_wp fun prog w A R s h => by
    obtain ⟨hp, g, d, tk, os⟩ := s; obtain ⟨hl1, hl2, h⟩ := h
    have hsub := sub_zip
    have q1 : ∀ {A' : Around} {E : Value → Shared → Prop} {Q : Value → Shared → Prop}, Q (.ref i1) ⟨hp, g, d, tk, os⟩ → wpAny (model prog w) A' (pyIter (.ref i1)) Q E ⟨hp, g, d, tk, os⟩ :=
      fun q => B1.iter prog w _ _ ⟨hp, g, d, tk, os⟩ _ hl1 q
    have q2 : ∀ {A' : Around} {E : Value → Shared → Prop} {Q : Value → Shared → Prop}, Q (.ref i2) ⟨hp, g, d, tk, os⟩ → wpAny (model prog w) A' (pyIter (.ref i2)) Q E ⟨hp, g, d, tk, os⟩ :=
      fun q => B2.iter prog w _ _ ⟨hp, g, d, tk, os⟩ _ hl2 q
    wp_walk using q1, q2
    exact ⟨_, rfl, h⟩
section
variable {prog : Program} {w : World} {A : Around} {E : Value → Shared → Prop} {s : Shared}
theorem call_zip_own {i1 i2 : Addr} {H1 H2 : Heap → Prop} (B1 : Own i1 H1) (B2 : Own i2 H2) (h1 : H1 s.heap) (h2 : H2 s.heap) {Q : Value → Shared → Prop}
    (h : ∀ h', IsZ false h' (s.heap.objs.size + 2) s.heap.objs.size (s.heap.objs.size + 1) .none → PySem.IsTupOf2 h' s.heap.objs.size (.ref i1) (.ref i2) →
      PySem.IsTupOf2 h' (s.heap.objs.size + 1) .none .none → h'.objs.size = s.heap.objs.size + 3 →
      (∀ c o, s.heap.get? c = some o → h'.get? c = some o) → Q (.ref (s.heap.objs.size + 2)) { s with heap := h' }) :
    wpAny (model prog w) A (call (.type "zip") [.ref i1, .ref i2]) Q E s := by
  refine callType_new F.called_zip (by decide) (F.typeCall_zip_2 _ _) (F.newCall_zip_2 _ _) (fun obj => F.args_object_init_3 obj _ _) F.entry_zip_new
    (meets_zip_own B1 B2) ⟨h1, h2, ?_⟩
  have z1 : (zr1 s.heap i1 i2).objs.size = s.heap.objs.size + 1 := Heap.size_push ..
  have z2 : (zr2 s.heap i1 i2).objs.size = s.heap.objs.size + 2 := by rw [Heap.size_push, z1]
  have z3 : (zr3 s.heap i1 i2).objs.size = s.heap.objs.size + 3 := by rw [Heap.size_push, z2]
  have g3 : (zr3 s.heap i1 i2).get? (zr2 s.heap i1 i2).objs.size = some _ := Heap.get?_push_size _ rfl
  have g2 : (zr3 s.heap i1 i2).get? (zr1 s.heap i1 i2).objs.size = some _ := Heap.get?_push_of_some _ (Heap.get?_push_size _ rfl)
  have g1 : (zr3 s.heap i1 i2).get? s.heap.objs.size = some _ := Heap.get?_push_of_some _ (Heap.get?_push_of_some _ (Heap.get?_push_size _ rfl))
  show _ ∧ _
  rw [z1, z2] at g3
  rw [z1] at g2
  rw [z2]
  refine ⟨⟨_, g3, rfl⟩, h (zr3 s.heap i1 i2) g3 g1 g2 z3 ?_⟩
  intro c o x
  exact Heap.get?_push_of_some _ (Heap.get?_push_of_some _ (Heap.get?_push_of_some _ x))
theorem callWith_type_kw {M : Model} {env : Env} {pos : Pos} {T : String} {e : Expr} {rest : List Expr} {kws : List Keyword} {Q : Value → Shared → Prop}
    (h : wpAny M A (spliced (backTo pos (starEach (e :: rest) env))) (fun vs s₁ => wpAny M A (evalAll ((backToKw pos (keywordEach kws env)).map (·.2)))
      (fun kvs s₂ => wpAny M A (call (.type T) vs (((backToKw pos (keywordEach kws env)).filterMap (·.1)).zip kvs)) Q E s₂) E s₁) E s)
    (he : backTo pos (starEach (e :: rest) env) = (false, eval e env) :: backTo pos (starEach rest env) := by rfl)
    (hplain : (backTo pos (starEach (e :: rest) env)).any (·.1) = false := by rfl)
    (hall : (backToKw pos (keywordEach kws env)).all (·.1.isSome) = true := by rfl)
    (hkw : (backToKw pos (keywordEach kws env)).any (·.1.isNone) = false := by rfl) :
    wpAny M A (callWith pos (.type T) [] (backTo pos (starEach (e :: rest) env)) (backToKw pos (keywordEach kws env))) Q E s := by
  unfold callWith
  have h' : wpAny M A (evalArgs (.type T) true (backTo pos (starEach (e :: rest) env)) (backToKw pos (keywordEach kws env))) (fun a s₁ => wpAny M A (call (.type T) ([] ++ a.pos) a.kw) Q E s₁) E s := by
    rw [he] at h ⊢
    exact evalArgs_kwB hall h
  refine wpAny_bind (wpAny_holding (wpAny_mono h' (fun a s₁ h₁ => wpAny_bind (wpAny_standAt ?_)) fun _ _ x => x))
  simp only [hplain, hkw, Bool.or_false]
  refine wpAny_bind (wpAny_pure ?_)
  exact wpAny_bind (wpAny_mono h₁ (fun r s₂ hr => wpAny_bind (wpAny_holding (wpAny_point (wpAny_pure hr)))) fun _ _ x => x)
end
end ZG

/-! zip of lists and tuples, read from either end, strict or not, as a walk. -/
namespace ZG
open PySem PySem.Spec PyProof.Rows L2 RT
inductive SK where
  | l | t | rl | rt
def SK.sq (K : PySem.W.Frag) : SK → Hp → Addr → List V → Prop
  | .l => SqL K | .rl => SqL K | .t => SqT K | .rt => SqT K
def SK.ix : SK → Nat → Nat → Nat
  | .l, _, i => i | .t, _, i => i | .rl, n, i => n - 1 - i | .rt, n, i => n - 1 - i
def SK.it : SK → Heap → Addr → Addr → Nat → Nat → Prop
  | .l, h, it, a, _, i => h.IsListIter it a i
  | .t, h, it, a, _, i => h.IsTupleIter it a i
  | .rl, h, it, a, n, i => i ≤ n ∧ h.IsRevIter it a ((n : Int) - 1 - (i : Int))
  | .rt, h, it, a, n, i => i ≤ n ∧ IsRt h it a ((n : Int) - 1 - (i : Int))
theorem SK.it_obj {k : SK} {h : Heap} {it a : Addr} {n i : Nat} (st : k.it h it a n i) : ∃ o, h.get? it = some o ∧ (∀ v, o.data ≠ .cell v) ∧ o.cls ≠ .type "list" ∧ o.cls ≠ .type "tuple" ∧ o.cls ≠ .type "zip" := by
  cases k with
  | l => obtain ⟨o, ho, hc, hd⟩ := st; exact ⟨o, ho, fun v q => (by rw [hd] at q; cases q), by rw [hc]; simp, by rw [hc]; simp, by rw [hc]; simp⟩
  | t => obtain ⟨o, ho, hc, hd⟩ := st; exact ⟨o, ho, fun v q => (by rw [hd] at q; cases q), by rw [hc]; simp, by rw [hc]; simp, by rw [hc]; simp⟩
  | rl => obtain ⟨_, o, ho, hc, hd⟩ := st; exact ⟨o, ho, fun v q => (by rw [hd] at q; cases q), by rw [hc]; simp, by rw [hc]; simp, by rw [hc]; simp⟩
  | rt => obtain ⟨_, o, ho, hc, hd⟩ := st; exact ⟨o, ho, fun v q => (by rw [hd] at q; cases q), by rw [hc]; simp, by rw [hc]; simp, by rw [hc]; simp⟩
theorem SK.it_at {k : SK} {h h' : Heap} {it a : Addr} {n i : Nat} (st : k.it h it a n i) (e : ∀ o, h.get? it = some o → h'.get? it = some o) : k.it h' it a n i := by
  cases k with
  | l => exact Heap.IsListIter.at st e
  | t => exact Heap.IsTupleIter.at st e
  | rl => exact ⟨st.1, st.2.at e⟩
  | rt => exact ⟨st.1, st.2.at e⟩
/-- an iterator over a list or a tuple draws its items -/
theorem SK.draws {X : Cx} {pins : List (Addr × Obj)} {σ : L2.St} {H : Hp} {s : Shared} (k : SK) (I : Inv X pins σ H s) (hh : X.A.in1.handled = none) {a it : Addr} {xs : List V} (hq : k.sq X.K H a xs) (hne : a ≠ it) :
    ∃ (its : List Value) (St : Nat → Heap → Prop), Vals xs its ∧ Draws X.prog X.w X.A.in1 it [it, a] xs.length (fun i v => its[k.ix xs.length i]? = some v) St ∧ (∀ i, k.it s.heap it a xs.length i → St i s.heap) ∧ ∀ i h, St i h → k.it h it a xs.length i := by
  cases k with
  | l =>
    obtain ⟨its, rv, p, _⟩ := I.list hq
    have D := Draws.list (prog := X.prog) (w := X.w) hh it a hne its.toArray
    simp only [List.size_toArray, ← rv.length, List.getElem?_toArray] at D
    exact ⟨its, _, rv, D, fun i st => ⟨st, p.isList⟩, fun i h st => st.1⟩
  | t =>
    obtain ⟨its, rv, p, _⟩ := I.tuple hq
    have D := Draws.tuple (prog := X.prog) (w := X.w) hh it a hne its.toArray
    simp only [List.size_toArray, ← rv.length, List.getElem?_toArray] at D
    exact ⟨its, _, rv, D, fun i st => ⟨st, show s.heap.IsTuple a its.toArray from p⟩, fun i h st => st.1⟩
  | rl =>
    obtain ⟨its, rv, p, _⟩ := I.list hq
    have D := draws_rev (prog := X.prog) (w := X.w) hh it a hne its.toArray
    simp only [List.size_toArray, ← rv.length, List.getElem?_toArray] at D
    exact ⟨its, _, rv, D, fun i st => ⟨st, p.isList⟩, fun i h st => st.1⟩
  | rt =>
    obtain ⟨its, rv, p, hz⟩ := I.tuple hq
    have D := draws_rt (prog := X.prog) (w := X.w) hh it a hne its.toArray (by rw [List.size_toArray, ← rv.length]; exact hz)
    simp only [List.size_toArray, ← rv.length, List.getElem?_toArray] at D
    exact ⟨its, _, rv, D, fun i st => ⟨st, p⟩, fun i h st => st.1⟩
theorem vals_get' {xs : List V} {its : List Value} (r : Vals xs its) {j : Nat} {u : Value} (h : its[j]? = some u) : ∃ x, xs[j]? = some x ∧ RelV x u := by
  have hj : j < xs.length := by rw [r.length]; exact (List.getElem?_eq_some_iff.mp h).1
  obtain ⟨u', e, ru⟩ := r.get (List.getElem?_eq_getElem hj)
  rw [h] at e
  cases e
  exact ⟨_, List.getElem?_eq_getElem hj, ru⟩
def ItzG (K : PySem.W.Frag) (k1 k2 : SK) (b : Bool) (a c : Addr) (n1 n2 : Nat) : It :=
  ⟨fun i H => ∃ (xs ys : List V), k1.sq K H a xs ∧ k2.sq K H c ys ∧ xs.length = n1 ∧ ys.length = n2 ∧ i < n1 ∧ i < n2,
    fun i H v H' => ∃ T x y, v = .ref T ∧ H T = none ∧ H' = upd H T (.tup [x, y]) ∧ (∀ xs, k1.sq K H a xs → xs[k1.ix n1 i]? = some x) ∧ ∀ ys, k2.sq K H c ys → ys[k2.ix n2 i]? = some y,
    fun i H => ∃ (xs ys : List V), k1.sq K H a xs ∧ k2.sq K H c ys ∧ xs.length = n1 ∧ ys.length = n2 ∧ i ≤ n1 ∧ i ≤ n2 ∧ (i = n1 ∨ i = n2) ∧ (b = true → n1 = n2)⟩
theorem SK.inj {X : Cx} {pins : List (Addr × Obj)} {σ : L2.St} {H : Hp} {s : Shared} {k : SK} (I : Inv X pins σ H s) {a : Addr} {xs ys : List V} (h1 : k.sq X.K H a xs) (h2 : k.sq X.K H a ys) : xs = ys := by
  cases k with
  | l => exact I.list_inj h1 h2
  | t => exact I.tuple_inj h1 h2
  | rl => exact I.list_inj h1 h2
  | rt => exact I.tuple_inj h1 h2
theorem turn_zipG {P : Program} {w : World} {K : PySem.W.Frag} {elts : List Expr} {kk : Nat} {tpos : Pos} (k1 k2 : SK) (b : Bool) {a c z TI TO i1 i2 : Addr} {n1 n2 : Nat} (S : ZipSep2 z TI TO i1 i2 [i1, a] [i2, c]) (ha : a ≠ i1) (hc' : c ≠ i2) (hlt : ∀ e ∈ [z, TI, TO, i1, i2], True) :
    Turn P w K (.Tuple elts kk tpos) (ItzG K k1 k2 b a c n1 n2) [z, TI, TO, i1, i2] z (fun i h => IsZ b h z TI TO .none ∧ PySem.IsTupOf2 h TI (.ref i1) (.ref i2) ∧ (∃ x y, PySem.IsTupOf2 h TO x y) ∧ k1.it h i1 a n1 i ∧ k2.it h i2 c n2 i) where
  mem := by simp
  obj := fun i h st d hd => by
    obtain ⟨hz, hTI, ⟨x, y, hTO⟩, h1, h2⟩ := st
    have e' : d = z ∨ d = TI ∨ d = TO ∨ d = i1 ∨ d = i2 := by simpa using hd
    rcases e' with q | q | q | q | q
    · rw [q]; exact ⟨_, hz, fun v q => nomatch q⟩
    · rw [q]; exact ⟨_, hTI, fun v q => nomatch q⟩
    · rw [q]; exact ⟨_, hTO, fun v q => nomatch q⟩
    · rw [q]; obtain ⟨o, e1, e2, _⟩ := SK.it_obj h1; exact ⟨o, e1, e2⟩
    · rw [q]; obtain ⟨o, e1, e2, _⟩ := SK.it_obj h2; exact ⟨o, e1, e2⟩
  keep := fun i h h' st k => by
    obtain ⟨hz, hTI, ⟨x, y, hTO⟩, h1, h2⟩ := st
    exact ⟨k z (by simp) _ hz, k TI (by simp) _ hTI, ⟨x, y, k TO (by simp) _ hTO⟩, SK.it_at h1 fun o q => k i1 (by simp) o q, SK.it_at h2 fun o q => k i2 (by simp) o q⟩
  item := by
    intro X hP hw hK hc i pins s σ H E I hf st hg
    subst hP hw hK
    obtain ⟨hz, hTI, ⟨x0, y0, hTO⟩, h1, h2⟩ := st
    obtain ⟨xs, ys, hqx, hqy, rfl, rfl, l1, l2⟩ := hg
    obtain ⟨its, St1, rv, D1, s1, t1⟩ := k1.draws I (I.ok.hd hc) hqx ha
    obtain ⟨its2, St2, rv2, D2, s2, t2⟩ := k2.draws I (I.ok.hd hc) hqy hc'
    have hzl : z < s.heap.objs.size := Heap.lt_size hz
    refine pyNext_z_item S D1 D2 hz hTI hTO (s1 i h1) (s2 i h2) l1 l2 fun u u2 h' tk hu hu2 z' TO' h1' h2' hT hsz hk => ?_
    obtain ⟨x, hx, ru⟩ := vals_get' rv hu
    obtain ⟨y, hy, ru2⟩ := vals_get' rv2 hu2
    refine ⟨_, rfl, z_go (s := { s with heap := h', toks := tk }) z' fun h'' z'' sb => ?_⟩
    have hT2 : h''.get? s.heap.objs.size = some { cls := .type "tuple", data := .seq #[u, u2] } := (sb.2 _ (Nat.ne_of_gt hzl)).trans hT
    have new : ObjOk X.prog X.w (upd H s.heap.objs.size (.tup [x, y])) h'' s.heap.objs.size (.tup [x, y]) :=
      ⟨by show 2 ≤ sizeLine; decide, [u, u2], .cons ru (.cons ru2 .nil), ⟨_, hT2, rfl, _, rfl⟩⟩
    have I1 : Inv X pins σ (upd H s.heap.objs.size (.tup [x, y])) { s with heap := h'', toks := tk } :=
      I.turnedNew (t' := tk) (ch := [z, TI, TO, i1, i2]) (fun c o hb q => (sb.2 c (fun q' => hb (by simp [q']))).trans (hk c o (fun q' => hb (by simp [q'])) (fun q' => hb (by simp [q'])) (fun q' => hb (by simp [q'])) (fun q' => hb (by simp [q'])) q)) hf (Nat.le_refl _) new
    refine ⟨.ref s.heap.objs.size, _, I1, rfl, ⟨_, x, y, rfl, I.hok.fresh (Nat.le_refl _), rfl, fun l hl => by rw [SK.inj I hl hqx]; exact hx, fun l hl => by rw [SK.inj I hl hqy]; exact hy⟩, ⟨z'', ?_, ⟨u, u2, ?_⟩, ?_, ?_⟩, fun c hcm => ?_⟩
    · exact (sb.2 _ S.TIz).trans (hk _ _ S.TIz S.TITO S.TIi1 S.TIi2 hTI)
    · exact (sb.2 _ S.TOz).trans TO'
    · exact SK.it_at (t1 _ _ h1') fun o q => (sb.2 _ S.zi1.symm).trans q
    · exact SK.it_at (t2 _ _ h2') fun o q => (sb.2 _ S.zi2.symm).trans q
    · have hlt : c < s.heap.objs.size := by
        have e' : c = z ∨ c = TI ∨ c = TO ∨ c = i1 ∨ c = i2 := by simpa using hcm
        rcases e' with q | q | q | q | q
        · rw [q]; exact hzl
        · rw [q]; exact Heap.lt_size hTI
        · rw [q]; exact Heap.lt_size hTO
        · rw [q]; obtain ⟨_, e1, _⟩ := SK.it_obj h1; exact Heap.lt_size e1
        · rw [q]; obtain ⟨_, e2, _⟩ := SK.it_obj h2; exact Heap.lt_size e2
      rw [upd_ne (Nat.ne_of_lt hlt)]
      exact (hf c hcm).1
  done := by
    intro X hP hw hK hc i pins s σ H E I hf st hg
    subst hP hw hK
    obtain ⟨hz, hTI, ⟨x0, y0, hTO⟩, h1, h2⟩ := st
    obtain ⟨xs, ys, hqx, hqy, rfl, rfl, l1, l2, he, hb⟩ := hg
    obtain ⟨its, St1, rv, D1, s1, t1⟩ := k1.draws I (I.ok.hd hc) hqx ha
    obtain ⟨its2, St2, rv2, D2, s2, t2⟩ := k2.draws I (I.ok.hd hc) hqy hc'
    exact pyNext_z_end S (I.ok.hd hc) D1 D2 hz hTI hTO (s1 i h1) (s2 i h2) l1 l2 he hb fun h' tk hk => ⟨rfl, I.turnedL (t' := tk) (ch := [z, TI, TO, i1, i2]) (fun c o hb q =>
      hk c o (fun q' => hb (by simp [q'])) (fun q' => hb (by simp [q'])) (fun q' => hb (by simp [q'])) (fun q' => hb (by simp [q'])) q) hf⟩
  self := fun A i s Q E st h => z_self st.1 h
end ZG

namespace ZG
open PySem PySem.Spec PyProof.Rows L2 RT
theorem SK.lt {X : Cx} {pins : List (Addr × Obj)} {σ : L2.St} {H : Hp} {s : Shared} (k : SK) (I : Inv X pins σ H s) {a : Addr} {xs : List V} (hq : k.sq X.K H a xs) : ∃ o, s.heap.get? a = some o ∧ (o.cls = .type "list" ∨ o.cls = .type "tuple") := by
  cases k with
  | l => obtain ⟨its, rv, p, _⟩ := I.list hq; obtain ⟨o, ho, hc, _⟩ := p.isList; exact ⟨o, ho, .inl hc⟩
  | t => obtain ⟨its, rv, p, _⟩ := I.tuple hq; obtain ⟨o, ho, hc, _⟩ := id p; exact ⟨o, ho, .inr hc⟩
  | rl => obtain ⟨its, rv, p, _⟩ := I.list hq; obtain ⟨o, ho, hc, _⟩ := p.isList; exact ⟨o, ho, .inl hc⟩
  | rt => obtain ⟨its, rv, p, _⟩ := I.tuple hq; obtain ⟨o, ho, hc, _⟩ := id p; exact ⟨o, ho, .inr hc⟩
/-- an iterator over a list or a tuple begins -/
theorem SK.beg {X : Cx} {pins : List (Addr × Obj)} {σ : L2.St} {H : Hp} {s : Shared} (k : SK) (hk : k = .l ∨ k = .t) (I : Inv X pins σ H s) {a : Addr} {xs : List V} (hq : k.sq X.K H a xs) :
    ∃ (o : Obj) (Hs : Heap → Prop), Beg (.ref a) o Hs ∧ Hs s.heap ∧ ∀ (h : Heap) (i : Addr), h.get? i = some o → k.it h i a xs.length 0 := by
  rcases hk with rfl | rfl
  · obtain ⟨its, rv, p, _⟩ := I.list hq
    exact ⟨_, _, beg_list (xs := its.toArray), p.isList, fun h i g => ⟨_, g, rfl, rfl⟩⟩
  · obtain ⟨its, rv, p, _⟩ := I.tuple hq
    exact ⟨_, _, beg_tuple (xs := its.toArray), show s.heap.IsTuple a its.toArray from p, fun h i g => ⟨_, g, rfl, rfl⟩⟩
def iZipSA (K : PySem.W.Frag) (ta : TA) : TI := fun σ H R => ta σ H fun vs H1 => ∃ k1 k2 a c xs ys, vs = [.ref a, .ref c] ∧ (k1 = .l ∨ k1 = .t) ∧ (k2 = .l ∨ k2 = .t) ∧ SK.sq K k1 H1 a xs ∧ SK.sq K k2 H1 c ys ∧ xs.length = ys.length ∧ R (ItzG K k1 k2 true a c xs.length ys.length) H1
theorem pi_zipS {X : Cx} {e e2 : Expr} {ta : TA} {p pos tpos kp cp : Pos} {cj : Nat} {elts : List Expr} {kk : Nat} (hg : Gl X "zip") (hm : X.mg "zip" = none) (ha : PA X [e, e2] ta)
    (hs : backTo pos (starEach [e, e2] X.env) = (false, eval e X.env) :: backTo pos (starEach [e2] X.env) := by rfl) (hpl : (backTo pos (starEach [e, e2] X.env)).any (·.1) = false := by rfl) :
    PI X (.Tuple elts kk tpos) (.Call (.Name "zip" p) [e, e2] [⟨some "strict", .Constant (.bool true) cj cp, kp⟩] pos) (iZipSA X.K ta) := by
  refine ⟨fun pins s σ H R I h => ?_⟩
  refine wpAny_Call_Name_kw (ld_blt I hg hm PyProof.Rows.boot_zip ?_)
  refine callWith_type_kw (thn (ha.run pos pins s σ H _ I h) fun us s1 ⟨vs, H1, I1, r1, q1⟩ => ?_) hs hpl rfl rfl
  refine kws_cons (thn (pe_bl.run pins s1 σ H1 (fun v H2 => v = .bl true ∧ H2 = H1) I1 ⟨rfl, rfl⟩) fun kv s2 ⟨x, H2, I2, r2, q2⟩ => kws_nil ?_)
  obtain ⟨rfl, rfl⟩ := q2
  obtain rfl : kv = Value.bool true := r2
  obtain ⟨k1, k2, a, c, xs, ys, ex, hk1, hk2, hqx, hqy, hl, q1⟩ := q1
  subst ex
  cases r1 with
  | cons r rr =>
    cases rr with
    | cons r' rr =>
      cases rr
      cases r
      cases r'
      obtain ⟨o1, Hs1, B1, h1, t1⟩ := k1.beg hk1 I2 hqx
      obtain ⟨o2, Hs2, B2, h2, t2⟩ := k2.beg hk2 I2 hqy
      obtain ⟨oa, ga, _⟩ := k1.lt I2 hqx
      obtain ⟨oc, gc, _⟩ := k2.lt I2 hqy
      have la := Heap.lt_size ga
      have lc := Heap.lt_size gc
      have fresh5 : ∀ c, c ∈ [s2.heap.objs.size + 4, s2.heap.objs.size + 2, s2.heap.objs.size + 3, s2.heap.objs.size, s2.heap.objs.size + 1] → FpOk X pins H2 c := fun c hcm => by
        have e' : c = s2.heap.objs.size + 4 ∨ c = s2.heap.objs.size + 2 ∨ c = s2.heap.objs.size + 3 ∨ c = s2.heap.objs.size ∨ c = s2.heap.objs.size + 1 := by simpa using hcm
        have hle : s2.heap.objs.size ≤ c := by
          rcases e' with z | z | z | z | z
          · rw [z]; exact Nat.le_add_right _ _
          · rw [z]; exact Nat.le_add_right _ _
          · rw [z]; exact Nat.le_add_right _ _
          · rw [z]; exact Nat.le_refl _
          · rw [z]; exact Nat.le_add_right _ _
        exact I2.fpOk hle (I2.hok.fresh hle)
      refine call_zip_kw B1 B2 h1 h2 fun h' hz hTI hTO g1 g2 hsz hk => z_self hz ?_
      have I3 : Inv X pins σ H2 { s2 with heap := h' } := I2.kept (t' := s2.toks) hk
      exact ⟨s2.heap.objs.size + 4, [s2.heap.objs.size + 4, s2.heap.objs.size + 2, s2.heap.objs.size + 3, s2.heap.objs.size, s2.heap.objs.size + 1], _, _, H2, rfl, I3,
        turn_zipG k1 k2 true (zip_sep2 (fp1 := [a]) (fp2 := [c]) (fun b hb => by rw [List.mem_singleton.mp hb]; exact la) (fun b hb => by rw [List.mem_singleton.mp hb]; exact lc)) (Nat.ne_of_lt la) (Nat.ne_of_lt (Nat.lt_succ_of_lt lc)) (fun _ _ => trivial),
        ⟨hz, hTI, ⟨_, _, hTO⟩, t1 _ _ g1, t2 _ _ g2⟩, fresh5, q1⟩
/-- reversed(x) -/
theorem SK.rev {X : Cx} {pins : List (Addr × Obj)} {σ : L2.St} {H : Hp} {s : Shared} (k : SK) (hk : k = .rl ∨ k = .rt) (I : Inv X pins σ H s) {a : Addr} {xs : List V} (hq : k.sq X.K H a xs) {E : Value → Shared → Prop} {Q : Value → Shared → Prop}
    (h : ∀ o tk, o.isFreed = false → k.it (s.heap.push o) s.heap.objs.size a xs.length 0 → Q (.ref s.heap.objs.size) { s with heap := s.heap.push o, toks := tk }) : wpAny (model X.prog X.w) X.A (call (.type "reversed") [.ref a]) Q E s := by
  rcases hk with rfl | rfl
  · obtain ⟨its, rv, p', hz⟩ := I.list hq
    have hl := rv.length
    refine call_reversed_list p'.isList (h _ s.toks rfl ⟨Nat.zero_le _, ?_⟩)
    have e1 : ((its.toArray.size : Nat) : Int) - 1 = (xs.length : Int) - 1 - ((0 : Nat) : Int) := by simp only [List.size_toArray]; omega
    rw [← e1]
    exact ⟨_, Heap.get?_push_size _ rfl, rfl, rfl⟩
  · obtain ⟨its, rv, p', hz⟩ := I.tuple hq
    have hl := rv.length
    have hn := line63
    refine call_reversed_tup p' (fun A E Q k => len_tuple p' (by simp only [List.size_toArray] <;> omega) k) (h _ _ rfl ⟨Nat.zero_le _, ?_⟩)
    have e1 : ((its.toArray.size : Nat) : Int) - 1 = (xs.length : Int) - 1 - ((0 : Nat) : Int) := by simp only [List.size_toArray]; omega
    rw [← e1]
    exact ⟨_, Heap.get?_push_size _ rfl, rfl, rfl⟩
theorem SK.own {k : SK} (hk : k = .rl ∨ k = .rt) {i a : Addr} {n : Nat} : Own i (fun h => k.it h i a n 0) := by
  rcases hk with rfl | rfl
  · exact ⟨fun _ _ _ _ _ _ h q => wpAny_pyIter_revIter h.2 q⟩
  · exact ⟨fun _ _ _ _ _ _ h q => iter_rt h.2 q⟩
theorem sepN {N M a c : Nat} (h1 : a < N) (h2 : c < N) (h3 : M < N) (h4 : a < M) (h5 : M ≠ c) : ZipSep2 (N + 1 + 2) (N + 1) (N + 1 + 1) M N [M, a] [N, c] := by
  refine ⟨?_, ?_, ?_, ?_, ?_, ?_, ?_, ?_, ?_, ?_, ?_, ?_, ?_⟩
  · show (N + 1 : Nat) ≠ N + 1 + 2; omega
  · show (N + 1 + 1 : Nat) ≠ N + 1 + 2; omega
  · show (N + 1 : Nat) ≠ N + 1 + 1; omega
  · show (N + 1 : Nat) ≠ M; omega
  · simp
  · intro q
    rcases List.mem_cons.mp q with z | z
    · have z : (N + 1 + 2 : Nat) = M := z
      omega
    · have z : (N + 1 + 2 : Nat) = a := List.mem_singleton.mp z
      omega
  · intro q
    rcases List.mem_cons.mp q with z | z
    · have z : (N + 1 + 1 : Nat) = M := z
      omega
    · have z : (N + 1 + 1 : Nat) = a := List.mem_singleton.mp z
      omega
  · show (N + 1 : Nat) ≠ N; omega
  · simp
  · intro q
    rcases List.mem_cons.mp q with z | z
    · have z : (N + 1 + 2 : Nat) = N := z
      omega
    · have z : (N + 1 + 2 : Nat) = c := List.mem_singleton.mp z
      omega
  · intro q
    rcases List.mem_cons.mp q with z | z
    · have z : (N + 1 + 1 : Nat) = N := z
      omega
    · have z : (N + 1 + 1 : Nat) = c := List.mem_singleton.mp z
      omega
  · intro q
    rcases List.mem_cons.mp q with z | z
    · have z : (M : Nat) = N := z
      omega
    · exact h5 (List.mem_singleton.mp z)
  · intro q
    rcases List.mem_cons.mp q with z | z
    · have z : (N : Nat) = M := z
      omega
    · have z : (N : Nat) = a := List.mem_singleton.mp z
      omega
def iZipRA (K : PySem.W.Frag) (te tf : TE) : TI := fun σ H R => te σ H fun v H1 => ∃ k1 a xs, v = .ref a ∧ (k1 = .rl ∨ k1 = .rt) ∧ SK.sq K k1 H1 a xs ∧ tf σ H1 fun u H2 => ∃ k2 c ys, u = .ref c ∧ (k2 = .rl ∨ k2 = .rt) ∧ SK.sq K k1 H2 a xs ∧ SK.sq K k2 H2 c ys ∧ R (ItzG K k1 k2 false a c xs.length ys.length) H2
theorem pi_zipR {X : Cx} {e e2 : Expr} {te tf : TE} {p pos tpos pa pb posa posb : Pos} {elts : List Expr} {kk : Nat} (hg : Gl X "zip") (hm : X.mg "zip" = none) (hg2 : Gl X "reversed") (hm2 : X.mg "reversed" = none) (he : PE X e te) (hf : PE X e2 tf)
    (hs : starEach [e] X.env = (false, eval e X.env) :: starEach [] X.env := by rfl) (hs2 : starEach [e2] X.env = (false, eval e2 X.env) :: starEach [] X.env := by rfl) :
    PI X (.Tuple elts kk tpos) (.Call (.Name "zip" p) [.Call (.Name "reversed" pa) [e] [] posa, .Call (.Name "reversed" pb) [e2] [] posb] [] pos) (iZipRA X.K te tf) := by
  refine ⟨fun pins s σ H R I h => ?_⟩
  refine Call_ (ld_blt I hg hm PyProof.Rows.boot_zip (PyProof.Rows.callWith_type1 (args_cons (Call_ (ld_blt I hg2 hm2 PyProof.Rows.boot_reversed (PyProof.Rows.callWith_type1 (args_cons (thn (he.run pins s σ H _ I h) fun u s1 ⟨v, H1, I1, r1, q1⟩ => args_nil ?_) hs) hs rfl)))) rfl rfl))
  obtain ⟨k1, a, xs, eqv, hk1, hqx, q1⟩ := q1
  subst eqv
  obtain rfl : u = Value.ref a := r1
  refine k1.rev hk1 I1 hqx fun o tk of st1 => ?_
  have I2 : Inv X pins σ H1 { s1 with heap := s1.heap.push o, toks := tk } := I1.kept (t' := tk) fun b ob g => Heap.get?_push_of_some _ g
  obtain ⟨o1, go1, nc1, nl1, nt1, _⟩ := SK.it_obj st1
  have lt1 : s1.heap.objs.size < (s1.heap.push o).objs.size := Heap.lt_size go1
  obtain ⟨f0, f1, f2, f3, f4, f5⟩ := I1.fpOk (H' := H1) (b := s1.heap.objs.size) (Nat.le_refl _) (I1.hok.fresh (Nat.le_refl _))
  have I3 : Inv X (pins ++ [(s1.heap.objs.size, o1)]) σ H1 { s1 with heap := s1.heap.push o, toks := tk } := I2.pins_of fun q hq => by
    rcases List.mem_append.mp hq with z | z
    · exact I2.pin q (List.mem_append_right _ z)
    · rw [List.mem_singleton.mp z]
      exact ⟨go1, f0, f1, f2, nc1⟩
  refine args_cons (Call_ (ld_blt I2 hg2 hm2 PyProof.Rows.boot_reversed (PyProof.Rows.callWith_type1 (args_cons (thn (hf.run _ _ σ H1 _ I3 q1) fun u s2 ⟨v, H2, I4, r2, q2⟩ => args_nil ?_) hs2) hs2 rfl)))
  obtain ⟨k2, c, ys, eqv, hk2, hqx2, hqy, q2⟩ := q2
  subst eqv
  obtain rfl : u = Value.ref c := r2
  have pin1 := (I4.pin (s1.heap.objs.size, o1) (List.mem_append_right _ (List.mem_append_right _ (List.mem_singleton.mpr rfl))))
  have I5 : Inv X pins σ H2 s2 := I4.unpinned
  refine k2.rev hk2 I5 hqy fun o2 tk2 of2 st2 => args_nil ?_
  obtain ⟨oa, ga, ca⟩ := k1.lt I5 hqx2
  obtain ⟨oc, gc, cc⟩ := k2.lt I5 hqy
  obtain ⟨oa1, ga1, ca1⟩ := k1.lt I1 hqx
  have la := Heap.lt_size ga
  have lc := Heap.lt_size gc
  have l1 := Heap.lt_size pin1.1
  have la1 : a < s1.heap.objs.size := Heap.lt_size ga1
  have st1' : k1.it (s2.heap.push o2) s1.heap.objs.size a xs.length 0 := SK.it_at st1 fun ob g => by
    rw [go1] at g
    cases g
    exact Heap.get?_push_of_some _ pin1.1
  have c1 : s1.heap.objs.size ≠ c := fun z => by
    have e := pin1.1
    rw [show (s1.heap.objs.size, o1).1 = c from z, gc] at e
    cases e
    rcases cc with z | z
    · exact nl1 z
    · exact nt1 z
  refine call_zip_own (SK.own hk1) (SK.own hk2) st1' st2 fun h' hz hTI hTO hsz hk => z_self hz ?_
  have sz : (s2.heap.push o2).objs.size = s2.heap.objs.size + 1 := Heap.size_push ..
  have I6 : Inv X pins σ H2 { s2 with heap := h', toks := tk2 } := I5.kept (t' := tk2) fun b ob g => hk b ob (Heap.get?_push_of_some _ g)
  have new : ∀ b, s2.heap.objs.size ≤ b → FpOk X pins H2 b := fun b hb => I5.fpOk hb (I5.hok.fresh hb)
  have old : FpOk X pins H2 s1.heap.objs.size := ⟨pin1.2.1, f1, f2, f3, f4, f5⟩
  simp only [sz] at hz hTI hTO hsz ⊢
  generalize hN : s2.heap.objs.size = N at *
  generalize hM : s1.heap.objs.size = M at *
  have la' : (a : Nat) < N := la
  have lc' : (c : Nat) < N := lc
  have lM : (M : Nat) < N := l1
  have laM : (a : Nat) < M := la1
  refine ⟨N + 1 + 2, [N + 1 + 2, N + 1, N + 1 + 1, M, N], _, _, H2, rfl, I6, turn_zipG k1 k2 false (i1 := M) (i2 := N) (a := a) (c := c) (TI := N + 1) (TO := N + 1 + 1) (sepN la' lc' lM laM c1) (Nat.ne_of_lt laM) (Nat.ne_of_lt lc') (fun _ _ => trivial),
    ⟨hz, hTI, ⟨_, _, hTO⟩, SK.it_at st1' fun ob g => hk _ _ g, SK.it_at st2 fun ob g => hk _ _ g⟩, ?_, q2⟩
  · intro b hb
    rcases (by simpa using hb : b = N + 1 + 2 ∨ b = N + 1 ∨ b = N + 1 + 1 ∨ b = M ∨ b = N) with z | z | z | z | z
    · rw [z]; exact new _ (show (N : Nat) ≤ N + 1 + 2 by omega)
    · rw [z]; exact new _ (show (N : Nat) ≤ N + 1 by omega)
    · rw [z]; exact new _ (show (N : Nat) ≤ N + 1 + 1 by omega)
    · rw [z]; exact old
    · rw [z]; exact new _ (Nat.le_refl _)
end ZG

namespace Bl
open PySem PySem.Spec PyProof.Rows L2 ZG
/-! ### zip(x, y, strict=True), zip(reversed(x), reversed(y)) over data -/
def zipSK (x y : D) (S : Sto) (Q : List D → Sto → Prop) : Prop := match seqD x with
  | some xs => (match seqD y with | some ys => xs.length = ys.length ∧ Q (zipD xs ys) S | none => False)
  | none => False
def seqK (x : D) (k : List D → Prop) : Prop := match seqD x with
  | some xs => k xs
  | none => False
theorem seqK.imp {x : D} {k k' : List D → Prop} (h : seqK x k) (i : ∀ xs, k xs → k' xs) : seqK x k' := by
  unfold seqK at *
  split at h
  · exact i _ h
  · exact h.elim
theorem seqK.ex {x : D} {k : List D → Prop} (h : seqK x k) : ∃ xs, seqD x = some xs ∧ k xs := by
  unfold seqK at h
  split at h
  · exact ⟨_, by assumption, h⟩
  · exact h.elim
def iZipSD (t u : TEd) : TAd := fun env S Q E => t env S (fun x S1 => u env S1 (fun y S2 => zipSK x y S2 Q) E) E
def iZipRD (t u : TEd) : TAd := fun env S Q E => t env S (fun x S1 => seqK x fun xs => u env S1 (fun y S2 => seqK y fun ys => Q (zipD xs.reverse ys.reverse) S2) E) E
theorem moZipSD {t u : TEd} (ht : MoE t) (hu : MoE u) : MoE (iZipSD t u) := fun env S Q Q' E E' h he q => ht _ _ _ _ _ _ (fun x S1 q1 => hu _ _ _ _ _ _ (fun y S2 q2 => by
  unfold zipSK at q2 ⊢
  split at q2
  · split at q2
    · exact ⟨q2.1, h _ _ q2.2⟩
    · exact q2.elim
  · exact q2.elim) he q1) he q
theorem moZipRD {t u : TEd} (ht : MoE t) (hu : MoE u) : MoE (iZipRD t u) := fun env S Q Q' E E' h he q => ht _ _ _ _ _ _ (fun x S1 q1 => q1.imp fun xs q1 => hu _ _ _ _ _ _ (fun y S2 q2 => q2.imp fun ys q2 => h _ _ q2) he q1) he q
theorem Rp.sqK {K : Kz} {S : Sto} {H : Hp} {x : D} {v : V} {xs : List D} (rs : RS K S H) (r : Rp K S H x v) (e : seqD x = some xs) :
    ∃ kf kr a vs, v = .ref a ∧ RpL K S H xs vs ∧ (kf = .l ∨ kf = .t) ∧ (kr = .rl ∨ kr = .rt) ∧ ∀ S' H', Step S H S' H' → SK.sq K.K kf H' a vs ∧ SK.sq K.K kr H' a vs := by
  cases x <;> first | (cases e; done) | skip
  · cases e
    obtain ⟨a, vs, rfl, hq, rl⟩ := r.sqT
    exact ⟨.t, .rt, a, vs, rfl, rl, .inr rfl, .inr rfl, fun S' H' st => ⟨st.sqT rs hq, st.sqT rs hq⟩⟩
  · cases e
    cases r with
    | lst h1 h2 _ h4 => exact ⟨.l, .rl, _, _, rfl, h4, .inl rfl, .inl rfl, fun S' H' st => ⟨.inl (st.rdL h1 h2).1, .inl (st.rdL h1 h2).1⟩⟩
    | lstK h1 h4 => exact ⟨.l, .rl, _, _, rfl, h4, .inl rfl, .inl rfl, fun S' H' st => ⟨SqL.ofK h1, SqL.ofK h1⟩⟩
theorem walk_zipG {K : PySem.W.Frag} {k1 k2 : SK} {b : Bool} {a c : Addr} {xs ys : List V} {n : Nat} (hn : n = min xs.length ys.length) (hb : b = true → xs.length = ys.length) :
    Walk (ItzG K k1 k2 b a c xs.length ys.length) n (fun H => k1.sq K H a xs ∧ k2.sq K H c ys) (YPair (fun i => xs[k1.ix xs.length i]?) (fun i => ys[k2.ix ys.length i]?)) := by
  subst hn
  refine ⟨fun i _ hi q => ⟨xs, ys, q.1, q.2, rfl, rfl, by omega, by omega⟩, fun _ q => ⟨xs, ys, q.1, q.2, rfl, rfl, by omega, by omega, by omega, hb⟩, fun i H v H' _ q y => ?_⟩
  obtain ⟨T, x, z, h1, h2, h3, h4, h5⟩ := y
  exact ⟨T, x, z, h1, h2, h3, h4 xs q.1, h5 ys q.2⟩
theorem wk_zipR_of {K : Kz} {S : Sto} {H : Hp} {J : It} {G : Hp → Prop} {ds es : List D} {vs ws : List V} (rl : RpL K S H ds vs) (rl2 : RpL K S H es ws) (wk : Walk J (min vs.length ws.length) G (YPair (fun i => vs[vs.length - 1 - i]?) (fun i => ws[ws.length - 1 - i]?))) (hG : ∀ S' H', Step S H S' H' → G H') : WkD K S H J (zipD ds.reverse es.reverse) := by
  refine ⟨G, _, by rw [zipD_len, List.length_reverse, List.length_reverse, rl.length, rl2.length]; exact wk, hG, fun K' i S' H' x H'' _ _ rs' tr hi y => ?_⟩
  obtain ⟨T, x', y', rfl, hT, rfl, e1, e2⟩ := y
  obtain ⟨d, e3, r3⟩ := rl.get' e1
  obtain ⟨d2, e4, r4⟩ := rl2.get' e2
  obtain ⟨a, r⟩ := Rp.pair rs' hT (tr d x' r3) (tr d2 y' r4)
  rw [zipD_len, List.length_reverse, List.length_reverse] at hi
  refine ⟨a, _, zipD_get ?_ ?_, r⟩
  · rw [List.getElem?_reverse (by omega), rl.length]; exact e3
  · rw [List.getElem?_reverse (by omega), rl2.length]; exact e4
section
variable {P : Program} {w : World} {K : PySem.W.Frag} {mg : Str → Option Value} {base : Heap} {N : List Str} {sc : Scope} {vw : Vw} {k : Nat} {X : Cx} {W : WX}
theorem ji_zipS {e f : Expr} {te tf : TEd} {p pos tpos kp cp : Pos} {cj : Nat} {elts : List Expr} {kk : Nat} (c : JC P w K mg base N sc vw k X W) (hx : ("zip" : Str) ∈ vw.gs) (hm : mg "zip" = none) (he : JE X W e te) (hf : JE X W f tf)
    (hs : starEach [e, f] X.env = (false, eval e X.env) :: starEach [f] X.env := by rfl) (hs2 : starEach [f] X.env = (false, eval f X.env) :: starEach [] X.env := by rfl) (hs3 : backTo pos (starEach [e, f] X.env) = (false, eval e X.env) :: backTo pos (starEach [f] X.env) := by rfl) (hpl : (backTo pos (starEach [e, f] X.env)).any (·.1) = false := by rfl) :
    JI X W (.Tuple elts kk tpos) (.Call (.Name "zip" p) [e, f] [⟨some "strict", .Constant (.bool true) cj cp, kp⟩] pos) (iZipSD te tf) := by
  have ja := ja_cons he (ja_cons hf (ja_nil (X := X) (W := W)) hs2) hs
  refine ⟨⟨fun pins s σ H R I h => (pi_zipS (c.gl hx) (by rw [c.gg]; exact hm) ja.pa hs3 hpl).run pins s σ H R I ?_⟩, moZipSD he.mo hf.mo⟩
  obtain ⟨Z, env, S, re, rs, q⟩ := h
  refine ⟨Z, env, S, re, rs, he.mo _ _ _ _ _ _ (fun x S1 q1 => hf.mo _ _ _ _ _ _ (fun y S2 q2 vs H2 a r => ?_) (fun _ _ z => z) q1) (fun _ _ z => z) q⟩
  obtain ⟨v, u, rfl, r1, r2⟩ := r.two
  unfold zipSK at q2
  split at q2 <;> first | exact q2.elim | skip
  rename_i xs ex
  split at q2 <;> first | exact q2.elim | skip
  rename_i ys ey
  obtain ⟨hl, q2⟩ := q2
  obtain ⟨k1, _, l, vs, rfl, rl1, hk1, _, g1⟩ := r1.sqK a.rs ex
  obtain ⟨k2, _, m, us, rfl, rl2, hk2, _, g2⟩ := r2.sqK a.rs ey
  have hl' : vs.length = us.length := by rw [← rl1.length, ← rl2.length]; exact hl
  refine ⟨k1, k2, l, m, vs, us, rfl, hk1, hk2, (g1 S2 H2 (.refl _ _)).1, (g2 S2 H2 (.refl _ _)).1, hl', q2 _ H2 a (wk_zip_of (G := fun H => SK.sq X.K k1 H l vs ∧ SK.sq X.K k2 H m us) rl1 rl2 ?_ fun S' H' st => ⟨(g1 S' H' st).1, (g2 S' H' st).1⟩)⟩
  have wk := walk_zipG (K := X.K) (k1 := k1) (k2 := k2) (b := true) (a := l) (c := m) (xs := vs) (ys := us) rfl fun _ => hl'
  rcases hk1 with rfl | rfl <;> rcases hk2 with rfl | rfl <;> exact wk
theorem ji_zipR {e f : Expr} {te tf : TEd} {p pos tpos pa pb posa posb : Pos} {elts : List Expr} {kk : Nat} (c : JC P w K mg base N sc vw k X W) (hx : ("zip" : Str) ∈ vw.gs) (hm : mg "zip" = none) (hx2 : ("reversed" : Str) ∈ vw.gs) (hm2 : mg "reversed" = none) (he : JE X W e te) (hf : JE X W f tf)
    (hs : starEach [e] X.env = (false, eval e X.env) :: starEach [] X.env := by rfl) (hs2 : starEach [f] X.env = (false, eval f X.env) :: starEach [] X.env := by rfl) :
    JI X W (.Tuple elts kk tpos) (.Call (.Name "zip" p) [.Call (.Name "reversed" pa) [e] [] posa, .Call (.Name "reversed" pb) [f] [] posb] [] pos) (iZipRD te tf) := by
  refine ⟨⟨fun pins s σ H R I h => (pi_zipR (c.gl hx) (by rw [c.gg]; exact hm) (c.gl hx2) (by rw [c.gg]; exact hm2) he.pe hf.pe hs hs2).run pins s σ H R I ?_⟩, moZipRD he.mo hf.mo⟩
  obtain ⟨Z, env, S, re, rs, q⟩ := h
  refine LE.of he.mo re rs q (fun x S1 v H1 q1 a1 r1 => ?_) fun x S1 c dx H1 q1 a1 r1 => q1 c dx H1 a1 r1
  obtain ⟨xs, ex, q1⟩ := q1.ex
  obtain ⟨_, k1, l, vs, rfl, rl1, _, hk1, g1⟩ := r1.sqK a1.rs ex
  refine ⟨k1, l, vs, rfl, hk1, (g1 S1 H1 (.refl _ _)).2, LE.of hf.mo (re.step a1.st rs) a1.rs q1 (fun y S2 u H2 q2 a2 r2 => ?_) fun x S2 c dx H2 q2 a2 r2 => PX.after a1 q2 c dx H2 a2 r2⟩
  obtain ⟨ys, ey, q2⟩ := q2.ex
  obtain ⟨_, k2, m, us, rfl, rl2, _, hk2, g2⟩ := r2.sqK a2.rs ey
  have rl1' := RpL.step a2.st a1.rs _ _ rl1
  refine ⟨k2, m, us, rfl, hk2, (g1 S2 H2 a2.st).2, (g2 S2 H2 (.refl _ _)).2, q2 _ H2 (a1.trans a2) (wk_zipR_of (G := fun H => SK.sq X.K k1 H l vs ∧ SK.sq X.K k2 H m us) rl1' rl2 ?_ fun S' H' st => ⟨(g1 S' H' (a2.st.trans st)).2, (g2 S' H' st).2⟩)⟩
  have wk := walk_zipG (K := X.K) (k1 := k1) (k2 := k2) (b := false) (a := l) (c := m) (xs := vs) (ys := us) rfl fun z => by cases z
  rcases hk1 with rfl | rfl <;> rcases hk2 with rfl | rfl <;> exact wk
end
end Bl

namespace Go
open PySem PySem.Spec PyProof.Rows L2 Bl Lb
section
variable {env : Ev} {S : Sto} {E : EK} {t u : TEd} {Q : List D → Sto → Prop} {ds es : List D} {a b : D} {N : Nd} {g : Tg} {tb : TSd} {tt : TTd} {te : TEd} {k' : List D → Prop}
theorem zipS' (k : t env S (fun x S1 => u env S1 (fun y S2 => zipSK x y S2 Q) E) E) : iZipSD t u env S Q E := k
theorem zipST (h : Nat.beq ds.length es.length = true) (k : Q (zipD ds es) S) : zipSK (.tup ds) (.tup es) S Q := ⟨Nat.eq_of_beq_eq_true h, k⟩
theorem zipSL (h : Nat.beq ds.length es.length = true) (k : Q (zipD ds es) S) : zipSK (.lst ds) (.lst es) S Q := ⟨Nat.eq_of_beq_eq_true h, k⟩
theorem zipR' (k : t env S (fun x S1 => seqK x fun xs => u env S1 (fun y S2 => seqK y fun ys => Q (zipD xs.reverse ys.reverse) S2) E) E) : iZipRD t u env S Q E := k
theorem seqT (k : k' ds) : seqK (.tup ds) k' := k
theorem seqL (k : k' ds) : seqK (.lst ds) k' := k
theorem for_zc (k : forD g tb (.tup [a, b] :: zipD ds es) env S N) : forD g tb (zipD (a :: ds) (b :: es)) env S N := k
theorem for_zn (k : forD g tb [] env S N) : forD g tb (zipD [] es) env S N := k
theorem lg_zc {Q : List D → Sto → Prop} (k : lcGo g tt te env (.tup [a, b] :: zipD ds es) S Q) : lcGo g tt te env (zipD (a :: ds) (b :: es)) S Q := k
theorem lg_zn {Q : List D → Sto → Prop} (k : lcGo g tt te env [] S Q) : lcGo g tt te env (zipD [] es) S Q := k
end
end Go
namespace Go
open PySem PySem.Spec PyProof.Rows L2 Bl Lb
theorem appG {ta : TAd} {env : Ev} {S : Sto} {Q : DK} {E : EK} {r : Addr} {i : Nat} {xs : List D} (e : env[i]? = some (some (.ref r))) (h : S r = some xs) (k : ta env S (fun ds S2 => gApp r ds S2 Q) E) : dLm gApp (vr i) ta env S Q E := by
  unfold dLm
  refine vr_go e ?_
  exact ⟨by rw [h]; rfl, k⟩
theorem appK {r : Addr} {d : D} {xs : List D} {S : Sto} {Q : DK} (h : S r = some xs) (hl : xs.length < 1000) (k : Q .non (sup S r (xs ++ [d]))) : gApp r [d] S Q := by
  unfold gApp
  dsimp only
  rw [h]
  exact ⟨Nat.lt_trans hl (by decide), k⟩
theorem slR {r : Addr} {xs es : List D} {lo hi : Option Int} {S : Sto} {Q : DK} (h : S r = some xs) (e : Bl.cutD xs lo hi = es) (k : Q (.lst es) S) : fSl (.ref r) lo hi S Q := by
  unfold fSl
  dsimp only
  rw [h]
  dsimp only
  rw [e]
  exact k
theorem atI_last {α : Type} {xs : List α} {x : α} : atI (xs ++ [x]) (-1) = some x := by
  unfold atI ixN
  simp
  rw [if_pos (by omega)]
  simp
  rw [show (-1 + ((xs.length : Int) + 1)).toNat = xs.length by omega]
  simp
theorem cut_last {xs : List D} {x : D} : Bl.cutD (xs ++ [x]) none (some (-1)) = xs := by
  unfold Bl.cutD HT.sIx
  simp
  rw [show (-1 + ((xs.length : Int) + 1)).toNat = xs.length by omega]
  simp
end Go
namespace Go
open PySem PySem.Spec PyProof.Rows L2 Bl Lb
theorem frz {i : Nat} {env : Ev} {S : Sto} {N : Nd} {t : TSd} {a : Addr} {ds : List D} (e : env[i]? = some (some (.ref a))) (h : S a = some ds) (k : t (env.set i (some (.lst ds))) (sdel S a) N) : sFrz i t env S N := by
  unfold sFrz
  rw [e]
  dsimp only
  rw [h]
  exact k
end Go

namespace Lb
open PySem PySem.Spec PyProof.Rows L2 Bl
/-! ### == of a thing and itself; what may be compared -/
mutual
theorem eqD_refl : ∀ d : D, pl d = true → eqD d d = true
  | .non, _ => rfl
  | .bl b, _ => by cases b <;> rfl
  | .int i, _ => by show (i == i) = true; exact beq_self_eq_true i
  | .str x, _ => by show (x == x) = true; exact beq_self_eq_true x
  | .tup ds, h => eqL_refl ds h
  | .lst ds, h => eqL_refl ds h
  | .ref _, h => by cases h
  | .obj _, h => by cases h
theorem eqL_refl : ∀ ds : List D, plL ds = true → PyData.eqvAll (pyL ds) (pyL ds) = true
  | [], _ => rfl
  | d :: ds, h => by
    obtain ⟨h1, h2⟩ := Bool.and_eq_true_iff.mp (show (pl d && plL ds) = true from h)
    show (PyData.eqv (py d) (py d) && PyData.eqvAll (pyL ds) (pyL ds)) = true
    rw [show PyData.eqv (py d) (py d) = true from eqD_refl d h1, eqL_refl ds h2]
    rfl
end
structure okN (n : Nat) (d : D) : Prop where
  p : pl d = true
  c : (py d).canLay0 = true
  d : (py d).depth ≤ n
theorem okN.ok {n : Nat} {d : D} (h : okN n d) (hn : n ≤ 64) : okD d := ⟨h.p, by
  unfold SeqAt.shaped
  rw [h.c]
  exact decide_eq_true (Nat.le_trans h.d hn)⟩
theorem okN.mono {m n : Nat} {d : D} (h : okN m d) (l : m ≤ n) : okN n d := ⟨h.p, h.c, Nat.le_trans h.d l⟩
theorem okN_int {n : Nat} (i : Int) : okN n (.int i) := ⟨rfl, rfl, Nat.zero_le _⟩
structure okNs (n : Nat) (ds : List D) : Prop where
  p : plL ds = true
  c : PyData.canLayAll0 (pyL ds) = true
  d : PyData.depthAll (pyL ds) ≤ n
theorem okNs_nil {n : Nat} : okNs n [] := ⟨rfl, rfl, Nat.zero_le _⟩
theorem okNs_cons {n : Nat} {d : D} {ds : List D} (h : okN n d) (k : okNs n ds) : okNs n (d :: ds) := ⟨by
  show (pl d && plL ds) = true
  rw [h.p, k.p]; rfl, by
  show (PyData.canLay0 (py d) && PyData.canLayAll0 (pyL ds)) = true
  rw [h.c, k.c]; rfl, by
  show max (PyData.depth (py d)) (PyData.depthAll (pyL ds)) ≤ n
  exact Nat.max_le.mpr ⟨h.d, k.d⟩⟩
theorem okN_tup {n : Nat} {ds : List D} (h : okNs n ds) : okN (n + 1) (.tup ds) := ⟨h.p, h.c, by
  show PyData.depthAll (pyL ds) + 1 ≤ n + 1
  have := h.d
  omega⟩
theorem okN_pr {n : Nat} (a b : Int) : okN (n + 1) (.tup [.int a, .int b]) := okN_tup (okNs_cons (okN_int _) (okNs_cons (okN_int _) okNs_nil))
theorem ne_refl {d : D} {n : Nat} {S : Sto} {Q : DK} (h : okN n d) (hn : n ≤ 64) (k : Q (.bl false) S) : fNe d d S Q := ⟨h.ok hn, h.ok hn, by rw [eqD_refl d h.p]; exact k⟩
theorem eq_refl {d : D} {n : Nat} {S : Sto} {Q : DK} (h : okN n d) (hn : n ≤ 64) (k : Q (.bl true) S) : fEq d d S Q := ⟨h.ok hn, h.ok hn, by rw [eqD_refl d h.p]; exact k⟩
end Lb

namespace Lb
open PySem PySem.Spec PyProof.Rows L2 Bl
def t_far_square : TSd := sRet (dTwo (dTwo (dTwo (dTwo (vr 0) (cn (.int 0)) fIx) (dTwo (vr 1) (cn (.int 0)) fIx) fSub) (cn (.int 2)) fPow) (dTwo (dTwo (dTwo (vr 0) (cn (.int 1)) fIx) (dTwo (vr 1) (cn (.int 1)) fIx) fSub) (cn (.int 2)) fPow) fAdd)
def m_far_square : TFd := fnD 2 2 t_far_square
theorem e_far_square {a0 a1 : D} {S : Sto} {Q : DK} {E : EK} (k : t_far_square [some a0, some a1] S ⟨fun _ S1 => Q .non S1, Q, fun _ _ => False, fun _ _ => False, fun x _ S1 => E x S1⟩) : m_far_square [a0, a1] S Q E := ⟨rfl, k⟩
def t_step_from : TSd := sRet (dTup (aCons (dTwo (dTwo (vr 0) (cn (.int 0)) fIx) (dTwo (vr 1) (cn (.int 0)) fIx) fSub) (aCons (dTwo (dTwo (vr 0) (cn (.int 1)) fIx) (dTwo (vr 1) (cn (.int 1)) fIx) fSub) (aNil))))
def m_step_from : TFd := fnD 2 2 t_step_from
theorem e_step_from {a0 a1 : D} {S : Sto} {Q : DK} {E : EK} (k : t_step_from [some a0, some a1] S ⟨fun _ S1 => Q .non S1, Q, fun _ _ => False, fun _ _ => False, fun x _ S1 => E x S1⟩) : m_step_from [a0, a1] S Q E := ⟨rfl, k⟩
def t_lowest : TSd := sSeq (sAsg (dCall m_common 2 0 (fun ds _ => ds) (aCons (dTwo (vr 0) (cn (.int 0)) fIx) (aCons (dTwo (vr 0) (cn (.int 1)) fIx) (aNil))) aNil) (.nm 1)) (sRet (dTup (aCons (dTwo (dTwo (vr 0) (cn (.int 0)) fIx) (vr 1) fDiv) (aCons (dTwo (dTwo (vr 0) (cn (.int 1)) fIx) (vr 1) fDiv) (aNil)))))
def m_lowest : TFd := fnD 1 2 t_lowest
theorem e_lowest {a0 : D} {S : Sto} {Q : DK} {E : EK} (k : t_lowest [some a0, none] S ⟨fun _ S1 => Q .non S1, Q, fun _ _ => False, fun _ _ => False, fun x _ S1 => E x S1⟩) : m_lowest [a0] S Q E := ⟨rfl, k⟩
def t_outward : TSd := sSeq (sAsg (dCall m_step_from 2 0 (fun ds _ => ds) (aCons (vr 1) (aCons (vr 0) (aNil))) aNil) (.tp (.nm 2 :: .nm 3 :: []))) (sRet (dCall m_lowest 1 0 (fun ds _ => ds) (aCons (dTup (aCons (vr 3) (aCons (dTwo (cn (.int 0)) (vr 2) fSub) (aNil)))) (aNil)) aNil))
def m_outward : TFd := fnD 2 4 t_outward
theorem e_outward {a0 a1 : D} {S : Sto} {Q : DK} {E : EK} (k : t_outward [some a0, some a1, none, none] S ⟨fun _ S1 => Q .non S1, Q, fun _ _ => False, fun _ _ => False, fun x _ S1 => E x S1⟩) : m_outward [a0, a1] S Q E := ⟨rfl, k⟩
def t_faces : TSd := sSeq (sStar (vr 0) 1 0 [.nm 1, .nm 2]) (sSeq (sIf (tbl (dTwo (vr 1) (cn (.str "spot")) fEq)) (sRet (dTup (aCons (dTup (aCons (cn (.str "round")) (aCons (dTwo (vr 2) (cn (.int 0)) fIx) (aCons (cn (.int 0)) (aCons (dTup (aCons (cn (.int 1)) (aCons (cn (.int 0)) (aNil)))) (aCons (dTup (aCons (cn (.int 1)) (aCons (cn (.int 0)) (aNil)))) (aNil))))))) (aNil)))) (sNx)) (sSeq (sStar (vr 2) 0 2 [.nm 3, .nm 4, .nm 5]) (sSeq (sAsg (dCall m_outward 2 0 (fun ds _ => ds) (aCons (vr 5) (aCons (vr 4) (aNil))) aNil) (.nm 6)) (sSeq (sIf (tbl (dTwo (vr 1) (cn (.str "cord")) fEq)) (sSeq (sAsg (dCall m_outward 2 0 (fun ds _ => ds) (aCons (vr 4) (aCons (vr 5) (aNil))) aNil) (.nm 7)) (sRet (dTup (aCons (dTup (aCons (cn (.str "side")) (aCons (vr 4) (aCons (vr 5) (aNil))))) (aCons (dTup (aCons (cn (.str "round")) (aCons (vr 5) (aCons (cn (.int 0)) (aCons (vr 7) (aCons (vr 6) (aNil))))))) (aCons (dTup (aCons (cn (.str "side")) (aCons (vr 5) (aCons (vr 4) (aNil))))) (aCons (dTup (aCons (cn (.str "round")) (aCons (vr 4) (aCons (cn (.int 0)) (aCons (vr 6) (aCons (vr 7) (aNil))))))) (aNil)))))))) (sNx)) (sSeq (sAsg (dTwo (vr 3) (cn (.int 0)) fIx) (.nm 8)) (sSeq (sPar [9, 10] (aCons (dCall m_lowest 1 0 (fun ds _ => ds) (aCons (dCall m_step_from 2 0 (fun ds _ => ds) (aCons (vr 4) (aCons (vr 8) (aNil))) aNil) (aNil)) aNil) (aCons (dCall m_lowest 1 0 (fun ds _ => ds) (aCons (dCall m_step_from 2 0 (fun ds _ => ds) (aCons (vr 5) (aCons (vr 8) (aNil))) aNil) (aNil)) aNil) (aNil)))) (sSeq (sAsg (dTup (aCons (cn (.str "round")) (aCons (vr 8) (aCons (dCall m_whole_root 1 0 (fun ds _ => ds) (aCons (dCall m_far_square 2 0 (fun ds _ => ds) (aCons (vr 8) (aCons (vr 4) (aNil))) aNil) (aNil)) aNil) (aCons (vr 9) (aCons (vr 10) (aNil))))))) (.nm 11)) (sRet (dTup (aCons (vr 11) (aCons (dTup (aCons (cn (.str "round")) (aCons (vr 5) (aCons (cn (.int 0)) (aCons (vr 10) (aCons (vr 6) (aNil))))))) (aCons (dTup (aCons (cn (.str "side")) (aCons (vr 5) (aCons (vr 4) (aNil))))) (aCons (dTup (aCons (cn (.str "round")) (aCons (vr 4) (aCons (cn (.int 0)) (aCons (vr 6) (aCons (vr 9) (aNil))))))) (aNil))))))))))))))
def m_faces : TFd := fnD 1 12 t_faces
theorem e_faces {a0 : D} {S : Sto} {Q : DK} {E : EK} (k : t_faces [some a0, none, none, none, none, none, none, none, none, none, none, none] S ⟨fun _ S1 => Q .non S1, Q, fun _ _ => False, fun _ _ => False, fun x _ S1 => E x S1⟩) : m_faces [a0] S Q E := ⟨rfl, k⟩
def t_l_point : TSd := sRet (dTup (aCons (dTwo (dCall m_l_take 2 0 (fun ds _ => ds) (aCons (vr 0) (aCons (dTwo (dTwo (cn (.int 2)) (vr 1) fMul) (cn (.int 1)) fAdd) (aNil))) aNil) (vr 1) fSub) (aCons (dTwo (dCall m_l_take 2 0 (fun ds _ => ds) (aCons (vr 0) (aCons (dTwo (dTwo (cn (.int 2)) (vr 1) fMul) (cn (.int 1)) fAdd) (aNil))) aNil) (vr 1) fSub) (aNil))))
def m_l_point : TFd := fnD 2 2 t_l_point
theorem e_l_point {a0 a1 : D} {S : Sto} {Q : DK} {E : EK} (k : t_l_point [some a0, some a1] S ⟨fun _ S1 => Q .non S1, Q, fun _ _ => False, fun _ _ => False, fun x _ S1 => E x S1⟩) : m_l_point [a0, a1] S Q E := ⟨rfl, k⟩
def t_l_turned : TSd := sSeq (sAsg (vr 0) (.tp (.nm 2 :: .nm 3 :: []))) (sSeq (sFor (iR1 (aCons (vr 1) (aNil))) (.nm 4) (sPar [2, 3] (aCons (dTwo (cn (.int 0)) (vr 3) fSub) (aCons (vr 2) (aNil))))) (sRet (dTup (aCons (vr 2) (aCons (vr 3) (aNil))))))
def m_l_turned : TFd := fnD 2 5 t_l_turned
theorem e_l_turned {a0 a1 : D} {S : Sto} {Q : DK} {E : EK} (k : t_l_turned [some a0, some a1, none, none, none] S ⟨fun _ S1 => Q .non S1, Q, fun _ _ => False, fun _ _ => False, fun x _ S1 => E x S1⟩) : m_l_turned [a0, a1] S Q E := ⟨rfl, k⟩
def t_l_added : TSd := sRet (dTup (aCons (dTwo (dTwo (vr 0) (cn (.int 0)) fIx) (dTwo (vr 1) (cn (.int 0)) fIx) fAdd) (aCons (dTwo (dTwo (vr 0) (cn (.int 1)) fIx) (dTwo (vr 1) (cn (.int 1)) fIx) fAdd) (aNil))))
def m_l_added : TFd := fnD 2 2 t_l_added
theorem e_l_added {a0 a1 : D} {S : Sto} {Q : DK} {E : EK} (k : t_l_added [some a0, some a1] S ⟨fun _ S1 => Q .non S1, Q, fun _ _ => False, fun _ _ => False, fun x _ S1 => E x S1⟩) : m_l_added [a0, a1] S Q E := ⟨rfl, k⟩
def t_l_thing : TSd := sSeq (sPar [2, 3] (aCons (dCall m_l_take 2 0 (fun ds _ => ds) (aCons (vr 0) (aCons (cn (.int 6)) (aNil))) aNil) (aCons (dCall m_l_point 2 0 (fun ds _ => ds) (aCons (vr 0) (aCons (vr 1) (aNil))) aNil) (aNil)))) (sSeq (sIf (tbl (dTwo (vr 2) (cn (.int 2)) fLt)) (sRet (dTup (aCons (cn (.str "spot")) (aCons (vr 3) (aNil))))) (sNx)) (sSeq (sAsg (dTwo (dLst (aCons (dTup (aCons (cn (.int 1)) (aCons (cn (.int 0)) (aNil)))) (aCons (dTup (aCons (cn (.int 3)) (aCons (cn (.int 4)) (aNil)))) (aCons (dTup (aCons (cn (.int 4)) (aCons (cn (.int 3)) (aNil)))) (aCons (dTup (aCons (cn (.int 5)) (aCons (cn (.int 12)) (aNil)))) (aCons (dTup (aCons (cn (.int 12)) (aCons (cn (.int 5)) (aNil)))) (aCons (dTup (aCons (cn (.int 8)) (aCons (cn (.int 15)) (aNil)))) (aCons (dTup (aCons (cn (.int 2)) (aCons (cn (.int 0)) (aNil)))) (aCons (dTup (aCons (cn (.int 6)) (aCons (cn (.int 8)) (aNil)))) (aNil)))))))))) (dCall m_l_take 2 0 (fun ds _ => ds) (aCons (vr 0) (aCons (cn (.int 8)) (aNil))) aNil) fIx) (.tp (.nm 4 :: .nm 5 :: []))) (sSeq (sPar [6, 7] (aCons (dCall m_l_take 2 0 (fun ds _ => ds) (aCons (vr 0) (aCons (cn (.int 4)) (aNil))) aNil) (aCons (dTwo (cn (.int 1)) (dCall m_l_take 2 0 (fun ds _ => ds) (aCons (vr 0) (aCons (dTwo (dLst (aCons (cn (.int 1)) (aCons (cn (.int 3)) (aNil)))) (dCall m_l_take 2 0 (fun ds _ => ds) (aCons (vr 0) (aCons (cn (.int 2)) (aNil))) aNil) fIx) (aNil))) aNil) fAdd) (aNil)))) (sSeq (sAsg (dCall m_l_turned 2 0 (fun ds _ => ds) (aCons (dTup (aCons (dTwo (vr 4) (vr 7) fMul) (aCons (dTwo (vr 5) (vr 7) fMul) (aNil)))) (aCons (vr 6) (aNil))) aNil) (.nm 8)) (sSeq (sIf (tbl (dTwo (vr 2) (cn (.int 4)) fLt)) (sRet (dTup (aCons (cn (.str "cord")) (aCons (vr 3) (aCons (dCall m_l_added 2 0 (fun ds _ => ds) (aCons (vr 3) (aCons (vr 8) (aNil))) aNil) (aNil)))))) (sNx)) (sSeq (sPar [9, 10] (aCons (dTup (aCons (dTwo (vr 4) (vr 7) fMul) (aCons (dTwo (vr 5) (vr 7) fMul) (aNil)))) (aCons (dTup (aCons (dTwo (cn (.int 0)) (dTwo (vr 4) (vr 7) fMul) fSub) (aCons (dTwo (vr 5) (vr 7) fMul) (aNil)))) (aNil)))) (sSeq (sAsg (dCall m_l_take 2 0 (fun ds _ => ds) (aCons (vr 0) (aCons (cn (.int 3)) (aNil))) aNil) (.nm 11)) (sSeq (sIf (tOrD (tbl (dTwo (vr 11) (cn (.int 0)) fEq)) (tbl (dTwo (vr 5) (cn (.int 0)) fEq))) (sAsg (dTup (aCons (dTwo (cn (.int 0)) (dTwo (vr 9) (cn (.int 0)) fIx) fSub) (aCons (dTwo (cn (.int 0)) (dTwo (vr 9) (cn (.int 1)) fIx) fSub) (aNil)))) (.nm 10)) (sIf (tbl (dTwo (vr 11) (cn (.int 1)) fEq)) (sPar [9, 10] (aCons (dTup (aCons (dTwo (cn (.int 25)) (vr 7) fMul) (aCons (cn (.int 0)) (aNil)))) (aCons (dTup (aCons (dTwo (cn (.int 7)) (vr 7) fMul) (aCons (dTwo (cn (.int 24)) (vr 7) fMul) (aNil)))) (aNil)))) (sNx))) (sRet (dTup (aCons (cn (.str "bow")) (aCons (vr 3) (aCons (dCall m_l_added 2 0 (fun ds _ => ds) (aCons (vr 3) (aCons (dCall m_l_turned 2 0 (fun ds _ => ds) (aCons (vr 9) (aCons (vr 6) (aNil))) aNil) (aNil))) aNil) (aCons (dCall m_l_added 2 0 (fun ds _ => ds) (aCons (vr 3) (aCons (dCall m_l_turned 2 0 (fun ds _ => ds) (aCons (vr 10) (aCons (vr 6) (aNil))) aNil) (aNil))) aNil) (aNil)))))))))))))))
def m_l_thing : TFd := fnD 2 12 t_l_thing
theorem e_l_thing {a0 a1 : D} {S : Sto} {Q : DK} {E : EK} (k : t_l_thing [some a0, some a1, none, none, none, none, none, none, none, none, none, none] S ⟨fun _ S1 => Q .non S1, Q, fun _ _ => False, fun _ _ => False, fun x _ S1 => E x S1⟩) : m_l_thing [a0, a1] S Q E := ⟨rfl, k⟩
def t_l_lowest : TSd := sSeq (sPar [2, 3] (aCons (dB bAbs (aCons (vr 0) (aNil))) (aCons (dB bAbs (aCons (vr 1) (aNil))) (aNil)))) (sSeq (sWhile (tbl (dTwo (vr 3) (cn (.int 0)) fGt)) (sPar [2, 3] (aCons (vr 3) (aCons (dTwo (vr 2) (vr 3) fMod) (aNil))))) (sRet (dTup (aCons (dTwo (vr 0) (vr 2) fDiv) (aCons (dTwo (vr 1) (vr 2) fDiv) (aNil))))))
def m_l_lowest : TFd := fnD 2 4 t_l_lowest
theorem e_l_lowest {a0 a1 : D} {S : Sto} {Q : DK} {E : EK} (k : t_l_lowest [some a0, some a1, none, none] S ⟨fun _ S1 => Q .non S1, Q, fun _ _ => False, fun _ _ => False, fun x _ S1 => E x S1⟩) : m_l_lowest [a0, a1] S Q E := ⟨rfl, k⟩
def t_l_right : TSd := sRet (dCall m_l_lowest 2 0 (fun ds _ => ds) (aCons (dTwo (dTwo (vr 1) (cn (.int 1)) fIx) (dTwo (vr 0) (cn (.int 1)) fIx) fSub) (aCons (dTwo (dTwo (vr 0) (cn (.int 0)) fIx) (dTwo (vr 1) (cn (.int 0)) fIx) fSub) (aNil))) aNil)
def m_l_right : TFd := fnD 2 2 t_l_right
theorem e_l_right {a0 a1 : D} {S : Sto} {Q : DK} {E : EK} (k : t_l_right [some a0, some a1] S ⟨fun _ S1 => Q .non S1, Q, fun _ _ => False, fun _ _ => False, fun x _ S1 => E x S1⟩) : m_l_right [a0, a1] S Q E := ⟨rfl, k⟩
def t_l_faces : TSd := sSeq (sIf (tbl (dTwo (dTwo (vr 0) (cn (.int 0)) fIx) (cn (.str "spot")) fEq)) (sRet (dTup (aCons (dTup (aCons (cn (.str "round")) (aCons (dTwo (vr 0) (cn (.int 1)) fIx) (aCons (cn (.int 0)) (aCons (dTup (aCons (cn (.int 1)) (aCons (cn (.int 0)) (aNil)))) (aCons (dTup (aCons (cn (.int 1)) (aCons (cn (.int 0)) (aNil)))) (aNil))))))) (aNil)))) (sNx)) (sSeq (sPar [1, 2] (aCons (dTwo (vr 0) (dNeg (cn (.int 2))) fIx) (aCons (dTwo (vr 0) (dNeg (cn (.int 1))) fIx) (aNil)))) (sSeq (sAsg (dCall m_l_right 2 0 (fun ds _ => ds) (aCons (vr 2) (aCons (vr 1) (aNil))) aNil) (.nm 3)) (sSeq (sIf (tbl (dTwo (dTwo (vr 0) (cn (.int 0)) fIx) (cn (.str "cord")) fEq)) (sSeq (sAsg (dCall m_l_right 2 0 (fun ds _ => ds) (aCons (vr 1) (aCons (vr 2) (aNil))) aNil) (.nm 4)) (sRet (dTup (aCons (dTup (aCons (cn (.str "side")) (aCons (vr 1) (aCons (vr 2) (aNil))))) (aCons (dTup (aCons (cn (.str "round")) (aCons (vr 2) (aCons (cn (.int 0)) (aCons (vr 4) (aCons (vr 3) (aNil))))))) (aCons (dTup (aCons (cn (.str "side")) (aCons (vr 2) (aCons (vr 1) (aNil))))) (aCons (dTup (aCons (cn (.str "round")) (aCons (vr 1) (aCons (cn (.int 0)) (aCons (vr 3) (aCons (vr 4) (aNil))))))) (aNil)))))))) (sNx)) (sSeq (sAsg (dTwo (vr 0) (cn (.int 1)) fIx) (.tp (.nm 5 :: .nm 6 :: []))) (sSeq (sPar [7, 8] (aCons (dCall m_l_lowest 2 0 (fun ds _ => ds) (aCons (dTwo (dTwo (vr 1) (cn (.int 0)) fIx) (vr 5) fSub) (aCons (dTwo (dTwo (vr 1) (cn (.int 1)) fIx) (vr 6) fSub) (aNil))) aNil) (aCons (dCall m_l_lowest 2 0 (fun ds _ => ds) (aCons (dTwo (dTwo (vr 2) (cn (.int 0)) fIx) (vr 5) fSub) (aCons (dTwo (dTwo (vr 2) (cn (.int 1)) fIx) (vr 6) fSub) (aNil))) aNil) (aNil)))) (sSeq (sAsg (dCall m_l_root_of 1 0 (fun ds _ => ds) (aCons (dTwo (dTwo (dTwo (dTwo (vr 1) (cn (.int 0)) fIx) (vr 5) fSub) (dTwo (dTwo (vr 1) (cn (.int 0)) fIx) (vr 5) fSub) fMul) (dTwo (dTwo (dTwo (vr 1) (cn (.int 1)) fIx) (vr 6) fSub) (dTwo (dTwo (vr 1) (cn (.int 1)) fIx) (vr 6) fSub) fMul) fAdd) (aNil)) aNil) (.nm 9)) (sSeq (sAsg (dTup (aCons (cn (.str "round")) (aCons (dTwo (vr 0) (cn (.int 1)) fIx) (aCons (vr 9) (aCons (vr 7) (aCons (vr 8) (aNil))))))) (.nm 10)) (sRet (dTup (aCons (vr 10) (aCons (dTup (aCons (cn (.str "round")) (aCons (vr 2) (aCons (cn (.int 0)) (aCons (vr 8) (aCons (vr 3) (aNil))))))) (aCons (dTup (aCons (cn (.str "side")) (aCons (vr 2) (aCons (vr 1) (aNil))))) (aCons (dTup (aCons (cn (.str "round")) (aCons (vr 1) (aCons (cn (.int 0)) (aCons (vr 3) (aCons (vr 7) (aNil))))))) (aNil))))))))))))))
def m_l_faces : TFd := fnD 1 11 t_l_faces
theorem e_l_faces {a0 : D} {S : Sto} {Q : DK} {E : EK} (k : t_l_faces [some a0, none, none, none, none, none, none, none, none, none, none] S ⟨fun _ S1 => Q .non S1, Q, fun _ _ => False, fun _ _ => False, fun x _ S1 => E x S1⟩) : m_l_faces [a0] S Q E := ⟨rfl, k⟩
end Lb

section
local macro_rules | `(tactic| walk_at "blz") => `(tactic| fail)
local macro_rules | `(tactic| walk_at "bl0") => `(tactic| (with_reducible (first
  | (refine Go.gVr ?_; first | refine Go.vr0 ?_ | refine Go.vr1 ?_ | refine Go.vr2 ?_ | refine Go.vr3 ?_ | refine Go.vr4 ?_ | refine Go.vr5 ?_ | refine Go.vr6 ?_ | refine Go.vr7 ?_ | refine Go.vr8 ?_ | refine Go.vr9 ?_ | refine Go.vr10 ?_ | refine Go.vr11 ?_ | refine Go.vr12 ?_ | refine Go.vr13 ?_ | refine Go.vr14 ?_ | refine Go.vr15 ?_ | refine Go.vr16 ?_ | refine Go.vr17 ?_ | refine Go.vr18 ?_ | refine Go.vr19 ?_ | refine Go.vr20 ?_ | refine Go.vr21 ?_ | refine Go.vr22 ?_ | refine Go.vr23 ?_)
  | refine Go.two ?_
  | refine Go.cn' ?_
  | (refine Go.gIxT ?_; first | refine Go.ixT0 ?_ | refine Go.ixT1 ?_ | refine Go.ixT2 ?_ | refine Go.ixT3 ?_ | refine Go.ixT4 ?_ | refine Go.ixT5 ?_ | refine Go.ixT6 ?_ | refine Go.ixT7 ?_)
  | refine Go.cons ?_
  | refine Go.nil ?_
  | (refine Go.gAsg ?_; first | refine Go.set0 ?_ | refine Go.set1 ?_ | refine Go.set2 ?_ | refine Go.set3 ?_ | refine Go.set4 ?_ | refine Go.set5 ?_ | refine Go.set6 ?_ | refine Go.set7 ?_ | refine Go.set8 ?_ | refine Go.set9 ?_ | refine Go.set10 ?_ | refine Go.set11 ?_ | refine Go.set12 ?_ | refine Go.set13 ?_ | refine Go.set14 ?_ | refine Go.set15 ?_ | refine Go.set16 ?_ | refine Go.set17 ?_ | refine Go.set18 ?_ | refine Go.set19 ?_ | refine Go.set20 ?_ | refine Go.set21 ?_ | refine Go.set22 ?_ | refine Go.set23 ?_ | refine Go.tp_cons ?_ | refine Go.tp_nil ?_)
  | refine Go.seq ?_
  | refine Go.asg ?_
  | refine Go.call ?_
  | refine Go.callK' rfl rfl ?_
  | refine Go.tup ?_
  | refine Go.tupK' rfl ?_
  | refine Go.tbl' ?_
  | refine Go.tblK' ?_
  | refine Go.if' ?_
  | refine Go.ret ?_
  | refine Go.nx' ?_
  | refine Go.add ?_
  | refine Go.sub' ?_
  | refine Go.par ?_
  | refine Go.par_cons ?_
  | refine Go.par_nil ?_
  | refine Go.and' ?_
  | refine Go.or' ?_
  | refine Go.not' ?_
  | refine Go.ifT ?_
  | refine Go.ifF ?_
  | refine Go.ifN ?_
  | refine Go.lt ?_
  | refine Go.le ?_
  | refine Go.gt ?_
  | refine Go.ge ?_
  | refine Go.eqI ?_
  | refine Go.neI ?_
  | refine Go.ttr' ?_
  | refine Go.truB ?_
  | refine Go.eIf' ?_
  | refine Go.dB' ?_
  | refine Go.for' ?_
  | (refine Go.gIxL ?_; first | refine Go.ixL0 ?_ | refine Go.ixL1 ?_ | refine Go.ixL2 ?_ | refine Go.ixL3 ?_ | refine Go.ixL4 ?_ | refine Go.ixL5 ?_ | refine Go.ixL6 ?_ | refine Go.ixL7 ?_)
  | refine Go.drop ?_
  | refine Go.brk ?_
  | refine Go.cnt ?_
  | refine Go.raise ?_
  | refine Go.thru ?_
  | refine Go.tryAs ?_
  | refine Go.sub ?_
  | refine Go.retN ?_
  | refine Go.lst ?_
  | refine Go.lstR ?_
  | refine Go.truI ?_
  | refine Go.truN ?_
  | refine Go.vOf' ?_
  | refine Go.vNot' ?_
  | refine Go.is' ?_
  | refine Go.isNot' ?_
  | refine Go.chain ?_
  | refine Go.neg ?_
  | refine Go.neg' ?_
  | refine Go.abs' ?_
  | refine Go.lenT ?_
  | refine Go.lenL ?_
  | refine Go.max' ?_
  | refine Go.min' ?_
  | refine Go.intI ?_
  | refine Go.intB ?_
  | refine Go.tupL ?_
  | refine Go.tupT ?_
  | refine Go.isi ?_
  | refine Go.iVal' ?_
  | refine Go.iValT ?_
  | refine Go.iValL ?_
  | refine Go.r1 ?_
  | refine Go.r2 ?_
  | refine Go.star ?_
  | refine Go.l_cons ?_
  | refine Go.l_nil ?_
  | refine Go.enum' ?_
  | refine Go.rev' ?_
  | refine Go.zip' ?_
  | refine Go.wipe_nil ?_
  | refine Go.wipe_cons ?_
  | refine Go.iadd ?_
  | refine Go.sl ?_
  | refine Go.oN ?_
  | refine Go.oS ?_
  | refine Go.osK' ?_
  | refine Go.getL ?_
  | refine Go.lc ?_
  | refine Go.lcR ?_
  | refine Go.lg_nil ?_
  | refine Go.lg_cons ?_
  | refine Go.yes ?_
  | refine Go.for_nil ?_
  | refine Go.for_cons ?_
  | refine Go.revT ?_
  | refine Go.revL ?_
  | refine Go.zipT ?_
  | refine Go.zipL ?_
  | refine Go.lstK' rfl ?_
  | refine Go.lcL rfl ?_
  | refine Go.getLL' rfl ?_
  | refine Go.addT rfl ?_
  | (refine Go.gAug ?_; first | refine Go.aug0 ?_ | refine Go.aug1 ?_ | refine Go.aug2 ?_ | refine Go.aug3 ?_ | refine Go.aug4 ?_ | refine Go.aug5 ?_ | refine Go.aug6 ?_ | refine Go.aug7 ?_ | refine Go.aug8 ?_ | refine Go.aug9 ?_ | refine Go.aug10 ?_ | refine Go.aug11 ?_ | refine Go.aug12 ?_ | refine Go.aug13 ?_ | refine Go.aug14 ?_ | refine Go.aug15 ?_ | refine Go.aug16 ?_ | refine Go.aug17 ?_ | refine Go.aug18 ?_ | refine Go.aug19 ?_ | refine Go.aug20 ?_ | refine Go.aug21 ?_ | refine Go.aug22 ?_ | refine Go.aug23 ?_)
  | (refine Go.gStar ?_; first | refine Go.startup0 ?_ | refine Go.starlst0 ?_ | refine Go.startup1 ?_ | refine Go.starlst1 ?_ | refine Go.startup2 ?_ | refine Go.starlst2 ?_ | refine Go.startup3 ?_ | refine Go.starlst3 ?_ | refine Go.startup4 ?_ | refine Go.starlst4 ?_ | refine Go.startup_2 ?_ | refine Go.starlst_2 ?_ | refine Go.startup_3 ?_ | refine Go.starlst_3 ?_ | refine Go.startup_4 ?_ | refine Go.starlst_4 ?_)
  | refine Go.slfT1 ?_ | refine Go.sltT1 ?_ | refine Go.slfL1 ?_ | refine Go.sltL1 ?_ | refine Go.slfT2 ?_ | refine Go.sltT2 ?_ | refine Go.slfL2 ?_ | refine Go.sltL2 ?_ | refine Go.slfT3 ?_ | refine Go.sltT3 ?_ | refine Go.slfL3 ?_ | refine Go.sltL3 ?_ | refine Go.slfT4 ?_ | refine Go.sltT4 ?_ | refine Go.slfL4 ?_ | refine Go.sltL4 ?_
  | (refine Go.gUns ?_; first | refine Go.uns0 ?_ | refine Go.uns1 ?_ | refine Go.uns2 ?_ | refine Go.uns3 ?_ | refine Go.uns4 ?_ | refine Go.uns5 ?_ | refine Go.uns6 ?_ | refine Go.uns7 ?_ | refine Go.uns8 ?_ | refine Go.uns9 ?_ | refine Go.uns10 ?_ | refine Go.uns11 ?_ | refine Go.uns12 ?_ | refine Go.uns13 ?_ | refine Go.uns14 ?_ | refine Go.uns15 ?_ | refine Go.uns16 ?_ | refine Go.uns17 ?_ | refine Go.uns18 ?_ | refine Go.uns19 ?_ | refine Go.uns20 ?_ | refine Go.uns21 ?_ | refine Go.uns22 ?_ | refine Go.uns23 ?_)
  | refine Go.entup0 ?_ | refine Go.enlst0 ?_ | refine Go.entup1 ?_ | refine Go.enlst1 ?_ | refine Go.entup2 ?_ | refine Go.enlst2 ?_ | refine Go.entup3 ?_ | refine Go.enlst3 ?_ | refine Go.entup4 ?_ | refine Go.enlst4 ?_ | refine Go.entup5 ?_ | refine Go.enlst5 ?_ | refine Go.entup6 ?_ | refine Go.enlst6 ?_)))
local macro_rules | `(tactic| walk_at "bl1") => `(tactic| first | walk_at "bl0" | walk_at "blz" | ((with_reducible refine Go.gEqS ?_); (first | refine Go.eqS (b := true) ⟨rfl, by decide +kernel⟩ ⟨rfl, by decide +kernel⟩ rfl ?_ | refine Go.eqS (b := false) ⟨rfl, by decide +kernel⟩ ⟨rfl, by decide +kernel⟩ rfl ?_)) | ((with_reducible refine Go.gNeS ?_); (first | refine Go.neS (b := true) ⟨rfl, by decide +kernel⟩ ⟨rfl, by decide +kernel⟩ rfl ?_ | refine Go.neS (b := false) ⟨rfl, by decide +kernel⟩ ⟨rfl, by decide +kernel⟩ rfl ?_)) | ((with_reducible refine Go.gAll ?_); (refine Go.allB (by rfl) ?_)) | ((with_reducible refine Go.gIxT ?_); (refine Go.ixT (by rfl) ?_)) | ((with_reducible refine Go.gIxL ?_); (refine Go.ixL (by rfl) ?_)))
local macro_rules | `(tactic| walk_at "bl") => `(tactic| (repeat walk_at "bl1"))
namespace Lb
open PySem PySem.Spec PyProof.Rows L2 Bl
/-! ### points, things, faces -/
abbrev P2 := Int × Int
abbrev pt (p : P2) : D := .tup [.int p.1, .int p.2]
inductive Th where
  | spot (p : P2)
  | cord (p q : P2)
  | bow (c p q : P2)
inductive Fc where
  | side (a b : P2)
  | round (c : P2) (r : Int) (f l : P2)
def thD : Th → D
  | .spot p => .tup [.str "spot", pt p]
  | .cord p q => .tup [.str "cord", pt p, pt q]
  | .bow c p q => .tup [.str "bow", pt c, pt p, pt q]
def fcD : Fc → D
  | .side a b => .tup [.str "side", pt a, pt b]
  | .round c r f l => .tup [.str "round", pt c, .int r, pt f, pt l]
def Bd (p : P2) : Prop := p.1.natAbs ≤ 1000 ∧ p.2.natAbs ≤ 1000
def dif (a b : P2) : P2 := (a.1 - b.1, a.2 - b.2)
def dot (a b : P2) : Int := a.1 * b.1 + a.2 * b.2
def crs (a b : P2) : Int := a.1 * b.2 - a.2 * b.1
def far (a b : P2) : Int := dot (dif a b) (dif a b)
def Whole (n : Int) : Prop := ∃ r : Int, 0 ≤ r ∧ n = r * r
structure BowOk (c p q : P2) : Prop where
  ne : p ≠ q
  eq : far c p = far c q
  wr : Whole (far c p)
  wd : Whole (far p q)
  tn : 0 ≤ crs (dif p c) (dif q c)
def GoodTh : Th → Prop
  | .spot p => Bd p
  | .cord p q => Bd p ∧ Bd q ∧ p ≠ q ∧ Whole (far p q)
  | .bow c p q => Bd c ∧ Bd p ∧ Bd q ∧ BowOk c p q
/-- a direction in lowest terms -/
def low (d : P2) : P2 := (d.1 / (Int.gcd d.1 d.2 : Int), d.2 / (Int.gcd d.1 d.2 : Int))
def outw (a b : P2) : P2 := low ((dif b a).2, 0 - (dif b a).1)
def facesL : Th → List Fc
  | .spot p => [.round p 0 (1, 0) (1, 0)]
  | .cord p q => [.side p q, .round q 0 (outw p q) (outw q p), .side q p, .round p 0 (outw q p) (outw p q)]
  | .bow c p q => [.round c (isq (far c p).toNat) (low (dif p c)) (low (dif q c)), .round q 0 (low (dif q c)) (outw q p), .side q p, .round p 0 (outw q p) (low (dif p c))]
theorem common2_spec {d : P2} {n : Nat} {S : Sto} {Q : DK} {E : EK} (h1 : sm n d.1) (h2 : sm n d.2) (k : Q (.int (Int.gcd d.1 d.2)) S) : m_common [.int d.1, .int d.2] S Q E := common_spec h1 h2 k
theorem gcd_pos' {d : P2} (h : d ≠ (0, 0)) : (0 : Int) < Int.gcd d.1 d.2 := by
  have : Int.gcd d.1 d.2 ≠ 0 := by
    intro z
    obtain ⟨a, b⟩ := Int.gcd_eq_zero_iff.mp z
    exact h (Prod.ext a b)
  omega
theorem lowest_spec {d : P2} {n : Nat} {S : Sto} {Q : DK} {E : EK} (h : d ≠ (0, 0)) (h1 : sm n d.1) (h2 : sm n d.2) (hn : n ≤ 4000) (k : Q (pt (low d)) S) : m_lowest [pt d] S Q E := by
  refine e_lowest ?_
  unfold t_lowest
  walk_at "bl"
  refine common2_spec h1 h2 ?_
  walk_at "bl"
  have g := gcd_pos' h
  have gs : sm n (Int.gcd d.1 d.2) := by
    rcases Int.lt_trichotomy d.1 0 with z | z | z
    · have := Int.gcd_le_natAbs_left (a := d.1) (b := d.2) (by omega); unfold sm at *; omega
    · have : d.2 ≠ 0 := fun z2 => h (Prod.ext z z2)
      have := Int.gcd_le_natAbs_right (a := d.1) (b := d.2) (by omega); unfold sm at *; omega
    · have := Int.gcd_le_natAbs_left (a := d.1) (b := d.2) (by omega); unfold sm at *; omega
  have hd : CDiv' (Int.gcd d.1 d.2) := gs.cdiv (by omega) (by omega)
  refine Go.div hd ?_
  walk_at "bl"
  refine Go.div hd ?_
  walk_at "bl"
  rw [Int.fdiv_eq_ediv_of_nonneg _ (by omega), Int.fdiv_eq_ediv_of_nonneg _ (by omega)]
  exact k
theorem step_spec {a b : P2} {S : Sto} {Q : DK} {E : EK} (k : Q (pt (dif a b)) S) : m_step_from [pt a, pt b] S Q E := by
  refine e_step_from ?_
  unfold t_step_from
  walk_at "bl"
  exact k
theorem sm_dif {a b : P2} (ha : Bd a) (hb : Bd b) : sm 12 (dif a b).1 ∧ sm 12 (dif a b).2 := by
  obtain ⟨a1, a2⟩ := ha
  obtain ⟨b1, b2⟩ := hb
  unfold dif sm
  exact ⟨by show (a.1 - b.1).natAbs < _; omega, by show (a.2 - b.2).natAbs < _; omega⟩
theorem dif_ne {a b : P2} (h : a ≠ b) : dif a b ≠ (0, 0) := fun z => h (by
  unfold dif at z
  have h1 := congrArg Prod.fst z
  have h2 := congrArg Prod.snd z
  dsimp only at h1 h2
  exact Prod.ext (by omega) (by omega))
theorem outward_spec {a b : P2} {S : Sto} {Q : DK} {E : EK} (h : a ≠ b) (ha : Bd a) (hb : Bd b) (k : Q (pt (outw a b)) S) : m_outward [pt a, pt b] S Q E := by
  refine e_outward ?_
  unfold t_outward
  walk_at "bl"
  refine step_spec ?_
  walk_at "bl"
  obtain ⟨s1, s2⟩ := sm_dif hb ha
  refine lowest_spec (d := ((dif b a).2, 0 - (dif b a).1)) (fun z => dif_ne (Ne.symm h) (Prod.ext ?_ (congrArg Prod.fst z))) s2 (by unfold sm at *; show (0 - (dif b a).1).natAbs < _; omega) (by decide : 12 ≤ 4000) ?_
  · have := congrArg Prod.snd z
    dsimp only at this
    show (dif b a).1 = 0
    omega
  · exact k
theorem far_eq (a b : P2) : far a b = (a.1 - b.1) * (a.1 - b.1) + (a.2 - b.2) * (a.2 - b.2) := rfl
theorem sm_far {a b : P2} (ha : Bd a) (hb : Bd b) : sm 25 (far a b) := by
  obtain ⟨s1, s2⟩ := sm_dif ha hb
  exact ((s1.mul s1).add (s2.mul s2)).mono (by decide)
theorem far_nonneg (a b : P2) : 0 ≤ far a b := by
  have h : ∀ x : Int, 0 ≤ x * x := fun x => by
    rcases Int.le_total 0 x with z | z
    · exact Int.mul_nonneg z z
    · exact Int.mul_nonneg_of_nonpos_of_nonpos z z
  rw [far_eq]
  exact Int.add_nonneg (h _) (h _)
theorem sq0 {x : Int} (h : x * x = 0) : x = 0 := by
  rcases Int.mul_eq_zero.mp h with z | z <;> exact z
theorem far_zero {a b : P2} (h : far a b = 0) : a = b := by
  rw [far_eq] at h
  have h1 : ∀ x : Int, 0 ≤ x * x := fun x => by
    rcases Int.le_total 0 x with z | z
    · exact Int.mul_nonneg z z
    · exact Int.mul_nonneg_of_nonpos_of_nonpos z z
  have a1 := h1 (a.1 - b.1)
  have a2 := h1 (a.2 - b.2)
  have b1 := sq0 (x := a.1 - b.1) (by omega)
  have b2 := sq0 (x := a.2 - b.2) (by omega)
  exact Prod.ext (by omega) (by omega)
theorem far_self (a : P2) : far a a = 0 := by
  rw [far_eq]
  simp
theorem BowOk.np {c p q : P2} (h : BowOk c p q) : p ≠ c ∧ q ≠ c := by
  have e := h.eq
  refine ⟨fun z => ?_, fun z => ?_⟩
  · rw [z, far_self] at e
    exact h.ne (z.trans (far_zero e.symm))
  · rw [z, far_self] at e
    exact h.ne ((far_zero e).symm.trans z.symm)
theorem far_square_spec {a b : P2} {S : Sto} {Q : DK} {E : EK} (ha : Bd a) (hb : Bd b) (k : Q (.int (far a b)) S) : m_far_square [pt a, pt b] S Q E := by
  refine e_far_square ?_
  unfold t_far_square
  obtain ⟨s1, s2⟩ := sm_dif ha hb
  walk_at "bl"
  refine Go.pow2 (n := 12) s1 (by decide) ?_
  walk_at "bl"
  refine Go.pow2 (n := 12) s2 (by decide) ?_
  walk_at "bl"
  exact k
theorem whole_pos {S : Sto} {Q : DK} {E : EK} {n : Int} (hn : 0 ≤ n) (hs : sm 25 n) (k : Q (.int (isq n.toNat)) S) : m_whole_root [.int n] S Q E := whole_root_spec hn hs (by decide) k
def fcsD (t : Th) : D := .tup ((facesL t).map fcD)
theorem faces_spec {t : Th} {S : Sto} {Q : DK} {E : EK} (h : GoodTh t) (k : Q (fcsD t) S) : m_faces [thD t] S Q E := by
  refine e_faces ?_
  unfold t_faces
  cases t with
  | spot p =>
    unfold thD
    walk_at "bl"
    exact k
  | cord p q =>
    obtain ⟨hp, hq, hne, hw⟩ := h
    unfold thD
    walk_at "bl"
    refine outward_spec (Ne.symm hne) hq hp ?_
    walk_at "bl"
    refine outward_spec hne hp hq ?_
    walk_at "bl"
    exact k
  | bow c p q =>
    obtain ⟨hc, hp, hq, hb⟩ := h
    obtain ⟨np, nq⟩ := hb.np
    unfold thD
    walk_at "bl"
    refine outward_spec (Ne.symm hb.ne) hq hp ?_
    walk_at "bl"
    refine step_spec ?_
    walk_at "bl"
    obtain ⟨s1, s2⟩ := sm_dif hp hc
    refine lowest_spec (dif_ne np) s1 s2 (by decide) ?_
    walk_at "bl"
    refine step_spec ?_
    walk_at "bl"
    obtain ⟨s1, s2⟩ := sm_dif hq hc
    refine lowest_spec (dif_ne nq) s1 s2 (by decide) ?_
    walk_at "bl"
    refine far_square_spec hc hp ?_
    walk_at "bl"
    refine whole_pos (far_nonneg c p) (sm_far hc hp) ?_
    walk_at "bl"
    exact k
/-! the law's faces -/
theorem llowest_spec {d : P2} {n : Nat} {S : Sto} {Q : DK} {E : EK} (h : d ≠ (0, 0)) (h1 : sm n d.1) (h2 : sm n d.2) (hn : n ≤ 4000) (k : Q (pt (low d)) S) : m_l_lowest [.int d.1, .int d.2] S Q E := by
  refine e_l_lowest ?_
  unfold t_l_lowest
  walk_at "bl"
  have g := gcd_pos' h
  refine ⟨fun m e s => ∃ x y : Int, e = [some (.int d.1), some (.int d.2), some (.int x), some (.int y)] ∧ s = S ∧ 0 ≤ x ∧ 0 ≤ y ∧ sm n x ∧ sm n y ∧ Int.gcd x y = Int.gcd d.1 d.2 ∧ m = y.toNat, ⟨_, _, _, rfl, rfl, by split <;> omega, by split <;> omega, h1.abs, h2.abs, ?_, rfl⟩, ?_⟩
  · split <;> split <;> simp only [Int.neg_gcd, Int.gcd_neg]
  · rintro m e s ⟨x, y, rfl, rfl, hx, hy, sx, sy, hg, rfl⟩
    walk_at "bl"
    refine Go.ifD (fun hy0 => ?_) fun hy0 => ?_
    · walk_at "bl"
      refine Go.mod (by omega) ?_
      walk_at "bl"
      obtain ⟨g1, g2, g3⟩ := gcd_step hy0 hx
      exact ⟨(x.fmod y).toNat, by omega, y, _, rfl, rfl, hy, g1, sy, by unfold sm at *; omega, by rw [Int.gcd_comm, g3, Int.gcd_comm]; exact hg, rfl⟩
    · have y0 : y = 0 := by omega
      subst y0
      rw [Int.gcd_zero_right] at hg
      have ex : x = (Int.gcd d.1 d.2 : Int) := by omega
      subst ex
      have hd : CDiv' (Int.gcd d.1 d.2) := sx.cdiv (by omega) (by omega)
      walk_at "bl"
      refine Go.div hd ?_
      walk_at "bl"
      refine Go.div hd ?_
      walk_at "bl"
      rw [Int.fdiv_eq_ediv_of_nonneg _ (by omega), Int.fdiv_eq_ediv_of_nonneg _ (by omega)]
      exact k
theorem outw_eq {a b : P2} : outw a b = low (b.2 - a.2, a.1 - b.1) := by
  unfold outw dif
  have : 0 - (b.1 - a.1) = a.1 - b.1 := by omega
  dsimp only
  rw [this]
theorem lright_spec {a b : P2} {S : Sto} {Q : DK} {E : EK} (h : a ≠ b) (ha : Bd a) (hb : Bd b) (k : Q (pt (outw a b)) S) : m_l_right [pt a, pt b] S Q E := by
  refine e_l_right ?_
  unfold t_l_right
  walk_at "bl"
  obtain ⟨s1, s2⟩ := sm_dif hb ha
  obtain ⟨s3, s4⟩ := sm_dif ha hb
  refine llowest_spec (d := (b.2 - a.2, a.1 - b.1)) (fun z => h ?_) s2 s3 (by decide : 12 ≤ 4000) ?_
  · have z1 := congrArg Prod.fst z
    have z2 := congrArg Prod.snd z
    dsimp only at z1 z2
    exact Prod.ext (by omega) (by omega)
  · rw [← outw_eq]
    exact k
theorem lfaces_spec {t : Th} {S : Sto} {Q : DK} {E : EK} (h : GoodTh t) (k : Q (fcsD t) S) : m_l_faces [thD t] S Q E := by
  refine e_l_faces ?_
  unfold t_l_faces
  cases t with
  | spot p =>
    unfold thD
    walk_at "bl"
    exact k
  | cord p q =>
    obtain ⟨hp, hq, hne, hw⟩ := h
    unfold thD
    walk_at "bl"
    refine lright_spec (Ne.symm hne) hq hp ?_
    walk_at "bl"
    refine lright_spec hne hp hq ?_
    walk_at "bl"
    exact k
  | bow c p q =>
    obtain ⟨hc, hp, hq, hb⟩ := h
    obtain ⟨np, nq⟩ := hb.np
    unfold thD
    walk_at "bl"
    refine lright_spec (Ne.symm hb.ne) hq hp ?_
    walk_at "bl"
    obtain ⟨s1, s2⟩ := sm_dif hp hc
    obtain ⟨s3, s4⟩ := sm_dif hq hc
    refine llowest_spec (d := dif p c) (dif_ne np) s1 s2 (by decide) ?_
    walk_at "bl"
    refine llowest_spec (d := dif q c) (dif_ne nq) s3 s4 (by decide) ?_
    walk_at "bl"
    refine Go.mul (s1.cmul s1 (by decide)) ?_
    walk_at "bl"
    refine Go.mul (s2.cmul s2 (by decide)) ?_
    walk_at "bl"
    have e : (p.1 - c.1) * (p.1 - c.1) + (p.2 - c.2) * (p.2 - c.2) = far c p := by
      rw [far_eq]
      grind
    rw [e]
    refine root_of_spec (far_nonneg c p) (sm_far hc hp) (by decide) ?_
    walk_at "bl"
    exact k
end Lb

namespace Lb
open PySem PySem.Spec PyProof.Rows L2 Bl
/-! ### the drawn things -/
theorem point_spec {a : Addr} {most : Int} {S : Sto} {Q : DK} {E : EK} (hb : Bg S a) (h0 : 0 ≤ most) (h1 : most ≤ 1000) (k : ∀ p S', p.1.natAbs ≤ most.natAbs → p.2.natAbs ≤ most.natAbs → Bg S' a → Fr S S' a → Q (pt p) S') : m_l_point [.ref a, .int most] S Q E := by
  refine e_l_point ?_
  unfold t_l_point
  have hm : sm 11 most := by unfold sm; omega
  have h2 : sm 9000 (2 * most + 1) := (show sm 12 (2 * most + 1) by unfold sm; omega).mono (by decide)
  walk_at "bl"
  refine Go.mul ((sm.of (n := 2) (by decide)).cmul hm (by decide)) ?_
  walk_at "bl"
  refine take_spec hb (by omega) h2 fun x S1 x0 x1 b1 f1 => ?_
  walk_at "bl"
  refine Go.mul ((sm.of (n := 2) (by decide)).cmul hm (by decide)) ?_
  walk_at "bl"
  refine take_spec b1 (by omega) h2 fun y S2 y0 y1 b2 f2 => ?_
  walk_at "bl"
  exact k (x - most, y - most) S2 (by show (x - most).natAbs ≤ _; omega) (by show (y - most).natAbs ≤ _; omega) b2 (f1.trans f2)
def rot : Nat → P2 → P2
  | 0, p => p
  | n + 1, p => (0 - (rot n p).2, (rot n p).1)
theorem turned_spec {p : P2} {n : Nat} {S : Sto} {Q : DK} {E : EK} (hn : n < 1000) (k : Q (pt (rot n p)) S) : m_l_turned [pt p, .int n] S Q E := by
  refine e_l_turned ?_
  unfold t_l_turned
  walk_at "bl"
  refine Go.r1' rfl (by omega) ?_
  refine forD_rng (fun j e s => ∃ o, e = [some (pt p), some (.int n), some (.int (rot j p).1), some (.int (rot j p).2), o] ∧ s = S) ⟨_, rfl, rfl⟩ ?_ ?_
  · rintro j e s hj ⟨o, rfl, rfl⟩
    refine ⟨_, rfl, fun N' hnx _ _ _ _ => ?_⟩
    show sPar _ _ [some (pt p), some (.int n), some (.int (rot j p).1), some (.int (rot j p).2), some (.int (0 + j))] _ _
    walk_at "bl"
    exact hnx _ _ ⟨_, rfl, rfl⟩
  · rintro e s ⟨o, rfl, rfl⟩
    walk_at "bl"
    exact k
def plus2 (a b : P2) : P2 := (a.1 + b.1, a.2 + b.2)
theorem added_spec {a b : P2} {S : Sto} {Q : DK} {E : EK} (k : Q (pt (plus2 a b)) S) : m_l_added [pt a, pt b] S Q E := by
  refine e_l_added ?_
  unfold t_l_added
  walk_at "bl"
  exact k
theorem rot_dot (u v : P2) : ∀ n : Nat, dot (rot n u) (rot n v) = dot u v
  | 0 => rfl
  | n + 1 => by
    rw [← rot_dot u v n]
    unfold dot
    show (0 - (rot n u).2) * (0 - (rot n v).2) + (rot n u).1 * (rot n v).1 = _
    grind
theorem rot_crs (u v : P2) : ∀ n : Nat, crs (rot n u) (rot n v) = crs u v
  | 0 => rfl
  | n + 1 => by
    rw [← rot_crs u v n]
    unfold crs
    show (0 - (rot n u).2) * (rot n v).1 - (rot n u).1 * (0 - (rot n v).2) = _
    grind
theorem far_plus (b u v : P2) : far (plus2 b u) (plus2 b v) = dot u u - 2 * dot u v + dot v v := by
  unfold far dif dot plus2
  dsimp only
  grind
theorem far_plus0 (b u : P2) : far b (plus2 b u) = dot u u := by
  unfold far dif dot plus2
  dsimp only
  grind
theorem dif_plus0 (b u : P2) : dif (plus2 b u) b = u := by
  unfold dif plus2
  dsimp only
  exact Prod.ext (by omega) (by omega)
theorem BowOk.mk' {b u v : P2} {n : Nat} {r d : Int} (h1 : dot u u = r * r) (h2 : dot v v = r * r) (hr : 0 ≤ r) (h3 : dot u u - 2 * dot u v + dot v v = d * d) (hd : 0 < d) (h4 : 0 ≤ crs u v) : BowOk b (plus2 b (rot n u)) (plus2 b (rot n v)) := by
  have e : far (plus2 b (rot n u)) (plus2 b (rot n v)) = d * d := by rw [far_plus, rot_dot, rot_dot, rot_dot, h3]
  refine ⟨fun z => ?_, ?_, ⟨r, hr, ?_⟩, ⟨d, by omega, e⟩, ?_⟩
  · rw [z, far_self] at e
    have := Int.mul_pos hd hd
    omega
  · rw [far_plus0, far_plus0, rot_dot, rot_dot, h1, h2]
  · rw [far_plus0, rot_dot, h1]
  · rw [dif_plus0, dif_plus0, rot_crs]
    exact h4
theorem rot_bd {u : P2} {m : Nat} (h1 : u.1.natAbs ≤ m) (h2 : u.2.natAbs ≤ m) : ∀ n : Nat, (rot n u).1.natAbs ≤ m ∧ (rot n u).2.natAbs ≤ m
  | 0 => ⟨h1, h2⟩
  | n + 1 => by
    obtain ⟨a, b⟩ := rot_bd h1 h2 n
    exact ⟨by show (0 - (rot n u).2).natAbs ≤ m; omega, a⟩
def PIn (m : Nat) (p : P2) : Prop := p.1.natAbs ≤ m ∧ p.2.natAbs ≤ m
def TIn (m : Nat) : Th → Prop
  | .spot p => PIn m p
  | .cord p q => PIn m p ∧ PIn m q
  | .bow c p q => PIn m c ∧ PIn m p ∧ PIn m q
theorem PIn.bd {m : Nat} {p : P2} (h : PIn m p) (hm : m ≤ 1000) : Bd p := ⟨Nat.le_trans h.1 hm, Nat.le_trans h.2 hm⟩
theorem plus_in {b u : P2} {m n : Nat} (h : PIn m b) (h' : PIn n u) : PIn (m + n) (plus2 b u) := by
  unfold PIn plus2 at *
  dsimp only
  omega
/-- how a thing is drawn -/
structure Shape (x y r : Int) : Prop where
  e : x * x + y * y = r * r
  x0 : 0 < x
  x1 : x ≤ 15
  y0 : 0 ≤ y
  y1 : y ≤ 15
  r0 : 0 < r
theorem shapes {d : Int} (h0 : 0 ≤ d) (h1 : d < 8) : ∃ x y r : Int, Shape x y r ∧ atI [pt (1, 0), pt (3, 4), pt (4, 3), pt (5, 12), pt (12, 5), pt (8, 15), pt (2, 0), pt (6, 8)] d = some (pt (x, y)) := by
  rcases (by omega : d = (0 : Nat) ∨ d = (1 : Nat) ∨ d = (2 : Nat) ∨ d = (3 : Nat) ∨ d = (4 : Nat) ∨ d = (5 : Nat) ∨ d = (6 : Nat) ∨ d = (7 : Nat)) with h | h | h | h | h | h | h | h <;> subst h
  · exact ⟨1, 0, 1, ⟨by decide, by decide, by decide, by decide, by decide, by decide⟩, atI_nat rfl⟩
  · exact ⟨3, 4, 5, ⟨by decide, by decide, by decide, by decide, by decide, by decide⟩, atI_nat rfl⟩
  · exact ⟨4, 3, 5, ⟨by decide, by decide, by decide, by decide, by decide, by decide⟩, atI_nat rfl⟩
  · exact ⟨5, 12, 13, ⟨by decide, by decide, by decide, by decide, by decide, by decide⟩, atI_nat rfl⟩
  · exact ⟨12, 5, 13, ⟨by decide, by decide, by decide, by decide, by decide, by decide⟩, atI_nat rfl⟩
  · exact ⟨8, 15, 17, ⟨by decide, by decide, by decide, by decide, by decide, by decide⟩, atI_nat rfl⟩
  · exact ⟨2, 0, 2, ⟨by decide, by decide, by decide, by decide, by decide, by decide⟩, atI_nat rfl⟩
  · exact ⟨6, 8, 10, ⟨by decide, by decide, by decide, by decide, by decide, by decide⟩, atI_nat rfl⟩
theorem onethree {d : Int} (h0 : 0 ≤ d) (h1 : d < 2) : ∃ m : Int, 0 < m ∧ m ≤ 3 ∧ atI [D.int 1, .int 3] d = some (.int m) := by
  rcases (by omega : d = 0 ∨ d = 1) with h | h <;> subst h
  · exact ⟨1, by decide, by decide, atI_0⟩
  · exact ⟨3, by decide, by decide, atI_1⟩
theorem thing_spec {a : Addr} {most : Int} {S : Sto} {Q : DK} {E : EK} (hb : Bg S a) (hm0 : 0 ≤ most) (hm1 : most ≤ 400) (k : ∀ t S', GoodTh t → TIn (most.toNat + 75) t → Bg S' a → Fr S S' a → Q (thD t) S') : m_l_thing [.ref a, .int most] S Q E := by
  refine e_l_thing ?_
  unfold t_l_thing
  walk_at "bl"
  refine take_spec hb (by omega) (sm_k (by decide)) fun kind S1 k0 k1 b1 f1 => ?_
  walk_at "bl"
  refine point_spec b1 hm0 (by omega) fun base S2 p1 p2 b2 f2 => ?_
  have pb : PIn most.toNat base := ⟨by omega, by omega⟩
  have pb' : PIn (most.toNat + 75) base := ⟨by omega, by omega⟩
  have hbase : Bd base := pb.bd (by omega)
  have f12 := f1.trans f2
  walk_at "bl"
  refine Go.ifD (fun hk => ?_) fun hk => ?_
  · walk_at "bl"
    exact k (.spot base) S2 hbase pb' b2 f12
  walk_at "bl"
  refine take_spec b2 (by omega) (sm_k (by decide)) fun d S3 d0 d1 b3 f3 => ?_
  obtain ⟨x, y, r, sh, ed⟩ := shapes d0 d1
  refine Go.ixL ed ?_
  walk_at "bl"
  refine take_spec b3 (by omega) (sm_k (by decide)) fun often S4 o0 o1 b4 f4 => ?_
  walk_at "bl"
  refine take_spec b4 (by omega) (sm_k (by decide)) fun u S5 u0 u1 b5 f5 => ?_
  obtain ⟨m, m0, m1, em⟩ := onethree u0 u1
  refine Go.ixL em ?_
  walk_at "bl"
  refine take_spec b5 m0 ((show sm 8 m by unfold sm; omega).mono (by decide)) fun sz S6 s0 s1 b6 f6 => ?_
  walk_at "bl"
  have f16 := (((f12.trans f3).trans f4).trans f5).trans f6
  have hx := sh.x0
  have hx1 := sh.x1
  have hy := sh.y0
  have hy1 := sh.y1
  have hr := sh.r0
  have he := sh.e
  generalize hs : 1 + sz = s at *
  have hs0 : 0 < s := by omega
  have hs3 : s ≤ 3 := by omega
  have ss : sm 4 s := by unfold sm; omega
  have sx : sm 5 x := by unfold sm; omega
  have sy : sm 5 y := by unfold sm; omega
  have ex : x * s ≤ 15 * 3 ∧ 0 < x * s := ⟨Int.mul_le_mul hx1 hs3 (by omega) (by omega), Int.mul_pos hx hs0⟩
  have ey : y * s ≤ 15 * 3 ∧ 0 ≤ y * s := ⟨Int.mul_le_mul hy1 hs3 (by omega) (by omega), Int.mul_nonneg hy (by omega)⟩
  have er : 0 < r * s := Int.mul_pos hr hs0
  obtain ⟨n, rfl⟩ : ∃ n : Nat, often = n := ⟨often.toNat, by omega⟩
  have hu : dot (x * s, y * s) (x * s, y * s) = (r * s) * (r * s) := by
    unfold dot
    dsimp only
    grind
  refine Go.mul (sx.cmul ss (by decide)) ?_
  walk_at "bl"
  refine Go.mul (sy.cmul ss (by decide)) ?_
  walk_at "bl"
  refine turned_spec (p := (x * s, y * s)) (by omega) ?_
  walk_at "bl"
  refine Go.ifD (fun hk2 => ?_) fun hk2 => ?_
  · walk_at "bl"
    refine added_spec ?_
    walk_at "bl"
    have hb2 := plus_in pb (rot_bd (u := (x * s, y * s)) (m := 75) (by show (x * s).natAbs ≤ _; omega) (by show (y * s).natAbs ≤ _; omega) n)
    refine k (.cord base (plus2 base (rot n (x * s, y * s)))) S6 ⟨hbase, hb2.bd (by omega), fun z => ?_, ⟨r * s, by omega, by rw [far_plus0, rot_dot, hu]⟩⟩ ⟨pb', hb2⟩ b6 f16
    have e := far_plus0 base (rot n (x * s, y * s))
    rw [rot_dot, hu, ← z, far_self] at e
    have := Int.mul_pos er er
    omega
  walk_at "bl"
  refine Go.mul (sx.cmul ss (by decide)) ?_
  walk_at "bl"
  refine Go.mul (sy.cmul ss (by decide)) ?_
  walk_at "bl"
  refine Go.mul (sx.cmul ss (by decide)) ?_
  walk_at "bl"
  refine Go.mul (sy.cmul ss (by decide)) ?_
  walk_at "bl"
  refine take_spec b6 (by omega) (sm_k (by decide)) fun way S7 w0 w1 b7 f7 => ?_
  have f17 := f16.trans f7
  -- both ends, by what was drawn
  have fin : ∀ (u v : P2) (R d : Int), dot u u = R * R → dot v v = R * R → 0 ≤ R → dot u u - 2 * dot u v + dot v v = d * d → 0 < d → 0 ≤ crs u v → u.1.natAbs ≤ 75 → u.2.natAbs ≤ 75 → v.1.natAbs ≤ 75 → v.2.natAbs ≤ 75 → GoodTh (.bow base (plus2 base (rot n u)) (plus2 base (rot n v))) ∧ TIn (most.toNat + 75) (.bow base (plus2 base (rot n u)) (plus2 base (rot n v))) :=
    fun u v R d h1 h2 h3 h4 h5 h6 c1 c2 c3 c4 => ⟨⟨hbase, (plus_in pb (rot_bd c1 c2 n)).bd (by omega), (plus_in pb (rot_bd c3 c4 n)).bd (by omega), .mk' h1 h2 h3 h4 h5 h6⟩, pb', plus_in pb (rot_bd c1 c2 n), plus_in pb (rot_bd c3 c4 n)⟩
  have half := fin (x * s, y * s) (0 - x * s, 0 - y * s) (r * s) (2 * (r * s)) hu (by unfold dot; dsimp only; grind) (by omega) (by unfold dot; dsimp only; grind) (by omega) (by unfold crs; dsimp only; grind) (by show (x * s).natAbs ≤ 75; omega) (by show (y * s).natAbs ≤ 75; omega) (by show (0 - x * s).natAbs ≤ 75; omega) (by show (0 - y * s).natAbs ≤ 75; omega)
  walk_at "bl"
  refine Go.ifD (fun hw => ?_) fun hw => ?_
  · walk_at "bl"
    refine turned_spec (p := (x * s, y * s)) (by omega) ?_
    walk_at "bl"
    refine added_spec ?_
    walk_at "bl"
    refine turned_spec (p := (0 - x * s, 0 - y * s)) (by omega) ?_
    walk_at "bl"
    refine added_spec ?_
    walk_at "bl"
    exact k _ S7 (half).1 (half).2 b7 f17
  walk_at "bl"
  refine Go.ifD (fun hy0 => ?_) fun hy0 => ?_
  · walk_at "bl"
    refine turned_spec (p := (x * s, y * s)) (by omega) ?_
    walk_at "bl"
    refine added_spec ?_
    walk_at "bl"
    refine turned_spec (p := (0 - x * s, 0 - y * s)) (by omega) ?_
    walk_at "bl"
    refine added_spec ?_
    walk_at "bl"
    exact k _ S7 (half).1 (half).2 b7 f17
  walk_at "bl"
  refine Go.ifD (fun hw2 => ?_) fun hw2 => ?_
  · walk_at "bl"
    refine Go.mul ((sm.of (n := 5) (by decide)).cmul ss (by decide)) ?_
    walk_at "bl"
    refine Go.mul ((sm.of (n := 5) (by decide)).cmul ss (by decide)) ?_
    walk_at "bl"
    refine Go.mul ((sm.of (n := 5) (by decide)).cmul ss (by decide)) ?_
    walk_at "bl"
    refine turned_spec (p := (25 * s, 0)) (by omega) ?_
    walk_at "bl"
    refine added_spec ?_
    walk_at "bl"
    refine turned_spec (p := (7 * s, 24 * s)) (by omega) ?_
    walk_at "bl"
    refine added_spec ?_
    walk_at "bl"
    exact k _ S7 (fin (25 * s, 0) (7 * s, 24 * s) (25 * s) (30 * s) (by unfold dot; dsimp only; grind) (by unfold dot; dsimp only; grind) (by omega) (by unfold dot; dsimp only; grind) (by omega) (by unfold crs; dsimp only; have := Int.mul_nonneg (show 0 ≤ s by omega) (show 0 ≤ s by omega); grind) (by show (25 * s).natAbs ≤ 75; omega) (by show (0 : Int).natAbs ≤ 75; omega) (by show (7 * s).natAbs ≤ 75; omega) (by show (24 * s).natAbs ≤ 75; omega)).1 (fin (25 * s, 0) (7 * s, 24 * s) (25 * s) (30 * s) (by unfold dot; dsimp only; grind) (by unfold dot; dsimp only; grind) (by omega) (by unfold dot; dsimp only; grind) (by omega) (by unfold crs; dsimp only; have := Int.mul_nonneg (show 0 ≤ s by omega) (show 0 ≤ s by omega); grind) (by show (25 * s).natAbs ≤ 75; omega) (by show (0 : Int).natAbs ≤ 75; omega) (by show (7 * s).natAbs ≤ 75; omega) (by show (24 * s).natAbs ≤ 75; omega)).2 b7 f17
  · walk_at "bl"
    refine turned_spec (p := (x * s, y * s)) (by omega) ?_
    walk_at "bl"
    refine added_spec ?_
    walk_at "bl"
    refine turned_spec (p := (0 - x * s, y * s)) (by omega) ?_
    walk_at "bl"
    refine added_spec ?_
    walk_at "bl"
    exact k _ S7 (fin (x * s, y * s) (0 - x * s, y * s) (r * s) (2 * (x * s)) hu (by unfold dot; dsimp only; grind) (by omega) (by unfold dot; dsimp only; grind) (by omega) (by unfold crs; dsimp only; have := Int.mul_nonneg (show 0 ≤ x * s by omega) ey.2; grind) (by show (x * s).natAbs ≤ 75; omega) (by show (y * s).natAbs ≤ 75; omega) (by show (0 - x * s).natAbs ≤ 75; omega) (by show (y * s).natAbs ≤ 75; omega)).1 (fin (x * s, y * s) (0 - x * s, y * s) (r * s) (2 * (x * s)) hu (by unfold dot; dsimp only; grind) (by omega) (by unfold dot; dsimp only; grind) (by omega) (by unfold crs; dsimp only; have := Int.mul_nonneg (show 0 ≤ x * s by omega) ey.2; grind) (by show (x * s).natAbs ≤ 75; omega) (by show (y * s).natAbs ≤ 75; omega) (by show (0 - x * s).natAbs ≤ 75; omega) (by show (y * s).natAbs ≤ 75; omega)).2 b7 f17
end Lb

namespace Lb
open PySem PySem.Spec PyProof.Rows L2 Bl
def k_ONE : D := .tup ([1, 1].map D.int)
def t_cross_of : TSd := sRet (dTwo (dTwo (dTwo (vr 0) (cn (.int 0)) fIx) (dTwo (vr 1) (cn (.int 1)) fIx) fMul) (dTwo (dTwo (vr 0) (cn (.int 1)) fIx) (dTwo (vr 1) (cn (.int 0)) fIx) fMul) fSub)
def m_cross_of : TFd := fnD 2 2 t_cross_of
theorem e_cross_of {a0 a1 : D} {S : Sto} {Q : DK} {E : EK} (k : t_cross_of [some a0, some a1] S ⟨fun _ S1 => Q .non S1, Q, fun _ _ => False, fun _ _ => False, fun x _ S1 => E x S1⟩) : m_cross_of [a0, a1] S Q E := ⟨rfl, k⟩
def t_dot_of : TSd := sRet (dTwo (dTwo (dTwo (vr 0) (cn (.int 0)) fIx) (dTwo (vr 1) (cn (.int 0)) fIx) fMul) (dTwo (dTwo (vr 0) (cn (.int 1)) fIx) (dTwo (vr 1) (cn (.int 1)) fIx) fMul) fAdd)
def m_dot_of : TFd := fnD 2 2 t_dot_of
theorem e_dot_of {a0 a1 : D} {S : Sto} {Q : DK} {E : EK} (k : t_dot_of [some a0, some a1] S ⟨fun _ S1 => Q .non S1, Q, fun _ _ => False, fun _ _ => False, fun x _ S1 => E x S1⟩) : m_dot_of [a0, a1] S Q E := ⟨rfl, k⟩
def t_left_of : TSd := sRet (dTup (aCons (dTwo (cn (.int 0)) (dTwo (vr 0) (cn (.int 1)) fIx) fSub) (aCons (dTwo (vr 0) (cn (.int 0)) fIx) (aNil))))
def m_left_of : TFd := fnD 1 1 t_left_of
theorem e_left_of {a0 : D} {S : Sto} {Q : DK} {E : EK} (k : t_left_of [some a0] S ⟨fun _ S1 => Q .non S1, Q, fun _ _ => False, fun _ _ => False, fun x _ S1 => E x S1⟩) : m_left_of [a0] S Q E := ⟨rfl, k⟩
def t_quarters : TSd := sSeq (sIf (tbl (dTwo (vr 0) (vr 1) fEq)) (sRet (dTup (aCons (cn (.int 4)) (aCons (vr 0) (aNil))))) (sNx)) (sSeq (sPar [2, 3] (aCons (cn (.int 0)) (aCons (vr 0) (aNil)))) (sSeq (sWhile (tNotD (tAndD (tbl (dTwo (dCall m_cross_of 2 0 (fun ds _ => ds) (aCons (vr 3) (aCons (vr 1) (aNil))) aNil) (cn (.int 0)) fGe)) (tbl (dTwo (dCall m_dot_of 2 0 (fun ds _ => ds) (aCons (vr 3) (aCons (vr 1) (aNil))) aNil) (cn (.int 0)) fGt)))) (sSeq (sAsg (dCall m_left_of 1 0 (fun ds _ => ds) (aCons (vr 3) (aNil)) aNil) (.nm 3)) (sAug 2 (cn (.int 1)) fIadd))) (sRet (dTup (aCons (vr 2) (aCons (vr 3) (aNil)))))))
def m_quarters : TFd := fnD 2 4 t_quarters
theorem e_quarters {a0 a1 : D} {S : Sto} {Q : DK} {E : EK} (k : t_quarters [some a0, some a1, none, none] S ⟨fun _ S1 => Q .non S1, Q, fun _ _ => False, fun _ _ => False, fun x _ S1 => E x S1⟩) : m_quarters [a0, a1] S Q E := ⟨rfl, k⟩
def t_length_of : TSd := sRet (dCall m_whole_root 1 0 (fun ds _ => ds) (aCons (dCall m_dot_of 2 0 (fun ds _ => ds) (aCons (vr 0) (aCons (vr 0) (aNil))) aNil) (aNil)) aNil)
def m_length_of : TFd := fnD 1 1 t_length_of
theorem e_length_of {a0 : D} {S : Sto} {Q : DK} {E : EK} (k : t_length_of [some a0] S ⟨fun _ S1 => Q .non S1, Q, fun _ _ => False, fun _ _ => False, fun x _ S1 => E x S1⟩) : m_length_of [a0] S Q E := ⟨rfl, k⟩
def t_rest_of : TSd := sSeq (sAsg (dTwo (dCall m_length_of 1 0 (fun ds _ => ds) (aCons (vr 0) (aNil)) aNil) (dCall m_length_of 1 0 (fun ds _ => ds) (aCons (vr 1) (aNil)) aNil) fMul) (.nm 2)) (sRet (dCall m_frac 2 0 (fun ds _ => ds ++ []) (aCons (dCall m_cross_of 2 0 (fun ds _ => ds) (aCons (vr 0) (aCons (vr 1) (aNil))) aNil) (aCons (dTwo (vr 2) (dCall m_dot_of 2 0 (fun ds _ => ds) (aCons (vr 0) (aCons (vr 1) (aNil))) aNil) fAdd) (aNil))) aNil))
def m_rest_of : TFd := fnD 2 3 t_rest_of
theorem e_rest_of {a0 a1 : D} {S : Sto} {Q : DK} {E : EK} (k : t_rest_of [some a0, some a1, none] S ⟨fun _ S1 => Q .non S1, Q, fun _ _ => False, fun _ _ => False, fun x _ S1 => E x S1⟩) : m_rest_of [a0, a1] S Q E := ⟨rfl, k⟩
def t_face_length : TSd := sSeq (sIf (tbl (dTwo (dTwo (vr 0) (cn (.int 0)) fIx) (cn (.str "side")) fEq)) (sRet (cn k_ONE)) (sNx)) (sSeq (sAsg (dCall m_quarters 2 0 (fun ds _ => ds) (aCons (dTwo (vr 0) (cn (.int 3)) fIx) (aCons (dTwo (vr 0) (cn (.int 4)) fIx) (aNil))) aNil) (.tp (.nm 1 :: .nm 2 :: []))) (sRet (dCall m_plus 2 0 (fun ds _ => ds) (aCons (dTup (aCons (vr 1) (aCons (cn (.int 1)) (aNil)))) (aCons (dCall m_rest_of 2 0 (fun ds _ => ds) (aCons (vr 2) (aCons (dTwo (vr 0) (cn (.int 4)) fIx) (aNil))) aNil) (aNil))) aNil)))
def m_face_length : TFd := fnD 1 3 t_face_length
theorem e_face_length {a0 : D} {S : Sto} {Q : DK} {E : EK} (k : t_face_length [some a0, none, none] S ⟨fun _ S1 => Q .non S1, Q, fun _ _ => False, fun _ _ => False, fun x _ S1 => E x S1⟩) : m_face_length [a0] S Q E := ⟨rfl, k⟩
def t_around : TSd := sSeq (sAsg (cn k_ZERO) (.nm 1)) (sSeq (sFor (iVal (dCall m_faces 1 0 (fun ds _ => ds) (aCons (vr 0) (aNil)) aNil)) (.nm 2) (sAsg (dCall m_plus 2 0 (fun ds _ => ds) (aCons (vr 1) (aCons (dCall m_face_length 1 0 (fun ds _ => ds) (aCons (vr 2) (aNil)) aNil) (aNil))) aNil) (.nm 1))) (sRet (vr 1)))
def m_around : TFd := fnD 1 3 t_around
theorem e_around {a0 : D} {S : Sto} {Q : DK} {E : EK} (k : t_around [some a0, none, none] S ⟨fun _ S1 => Q .non S1, Q, fun _ _ => False, fun _ _ => False, fun x _ S1 => E x S1⟩) : m_around [a0] S Q E := ⟨rfl, k⟩
def t_l_length : TSd := sSeq (sIf (tbl (dTwo (dTwo (vr 0) (cn (.int 0)) fIx) (cn (.str "side")) fEq)) (sRet (dTup (aCons (cn (.int 1)) (aCons (cn (.int 1)) (aNil))))) (sNx)) (sSeq (sAsg (dTup (aCons (dTwo (vr 0) (cn (.int 3)) fIx) (aCons (dTwo (vr 0) (cn (.int 4)) fIx) (aNil)))) (.tp (.tp (.nm 1 :: .nm 2 :: []) :: .tp (.nm 3 :: .nm 4 :: []) :: []))) (sSeq (sAsg (dTwo (cn (.int 4)) (dB bInt (aCons (dTwo (dTup (aCons (vr 1) (aCons (vr 2) (aNil)))) (dTup (aCons (vr 3) (aCons (vr 4) (aNil)))) fEq) (aNil))) fMul) (.nm 5)) (sSeq (sWhile (tAndD (tbl (dTwo (vr 5) (cn (.int 4)) fLt)) (tNotD (tAndD (tbl (dTwo (dTwo (dTwo (vr 1) (vr 4) fMul) (dTwo (vr 2) (vr 3) fMul) fSub) (cn (.int 0)) fGe)) (tbl (dTwo (dTwo (dTwo (vr 1) (vr 3) fMul) (dTwo (vr 2) (vr 4) fMul) fAdd) (cn (.int 0)) fGt))))) (sPar [1, 2, 5] (aCons (dTwo (cn (.int 0)) (vr 2) fSub) (aCons (vr 1) (aCons (dTwo (vr 5) (cn (.int 1)) fAdd) (aNil)))))) (sSeq (sAsg (dCall m_l_root_of 1 0 (fun ds _ => ds) (aCons (dTwo (dTwo (dTwo (vr 1) (vr 1) fMul) (dTwo (vr 2) (vr 2) fMul) fAdd) (dTwo (dTwo (vr 3) (vr 3) fMul) (dTwo (vr 4) (vr 4) fMul) fAdd) fMul) (aNil)) aNil) (.nm 6)) (sRet (dCall m_l_plus 2 0 (fun ds _ => ds) (aCons (dTup (aCons (vr 5) (aCons (cn (.int 1)) (aNil)))) (aCons (dCall m_l_low 2 0 (fun ds _ => ds) (aCons (dTwo (dTwo (vr 1) (vr 4) fMul) (dTwo (vr 2) (vr 3) fMul) fSub) (aCons (dTwo (dTwo (vr 6) (dTwo (vr 1) (vr 3) fMul) fAdd) (dTwo (vr 2) (vr 4) fMul) fAdd) (aNil))) aNil) (aNil))) aNil))))))
def m_l_length : TFd := fnD 1 7 t_l_length
theorem e_l_length {a0 : D} {S : Sto} {Q : DK} {E : EK} (k : t_l_length [some a0, none, none, none, none, none, none] S ⟨fun _ S1 => Q .non S1, Q, fun _ _ => False, fun _ _ => False, fun x _ S1 => E x S1⟩) : m_l_length [a0] S Q E := ⟨rfl, k⟩
def t_l_around : TSd := sSeq (sAsg (dTup (aCons (cn (.int 0)) (aCons (cn (.int 1)) (aNil)))) (.nm 1)) (sSeq (sFor (iVal (dCall m_l_faces 1 0 (fun ds _ => ds) (aCons (vr 0) (aNil)) aNil)) (.nm 2) (sAsg (dCall m_l_plus 2 0 (fun ds _ => ds) (aCons (vr 1) (aCons (dCall m_l_length 1 0 (fun ds _ => ds) (aCons (vr 2) (aNil)) aNil) (aNil))) aNil) (.nm 1))) (sRet (vr 1)))
def m_l_around : TFd := fnD 1 3 t_l_around
theorem e_l_around {a0 : D} {S : Sto} {Q : DK} {E : EK} (k : t_l_around [some a0, none, none] S ⟨fun _ S1 => Q .non S1, Q, fun _ _ => False, fun _ _ => False, fun x _ S1 => E x S1⟩) : m_l_around [a0] S Q E := ⟨rfl, k⟩
end Lb

namespace Lb
open PySem PySem.Spec PyProof.Rows L2 Bl
/-! ### directions, quarters, how long faces are -/
theorem dot_spec {a b : P2} {n : Nat} {S : Sto} {Q : DK} {E : EK} (a1 : sm n a.1) (a2 : sm n a.2) (b1 : sm n b.1) (b2 : sm n b.2) (hn : n ≤ 4000) (k : Q (.int (dot a b)) S) : m_dot_of [pt a, pt b] S Q E := by
  refine e_dot_of ?_
  unfold t_dot_of
  walk_at "bl"
  refine Go.mul (a1.cmul b1 (by omega)) ?_
  walk_at "bl"
  refine Go.mul (a2.cmul b2 (by omega)) ?_
  walk_at "bl"
  exact k
theorem cross_spec {a b : P2} {n : Nat} {S : Sto} {Q : DK} {E : EK} (a1 : sm n a.1) (a2 : sm n a.2) (b1 : sm n b.1) (b2 : sm n b.2) (hn : n ≤ 4000) (k : Q (.int (crs a b)) S) : m_cross_of [pt a, pt b] S Q E := by
  refine e_cross_of ?_
  unfold t_cross_of
  walk_at "bl"
  refine Go.mul (a1.cmul b2 (by omega)) ?_
  walk_at "bl"
  refine Go.mul (a2.cmul b1 (by omega)) ?_
  walk_at "bl"
  exact k
theorem left_spec {a : P2} {n : Nat} {S : Sto} {Q : DK} {E : EK} (k : Q (pt (rot 1 a)) S) : m_left_of [pt a] S Q E := by
  refine e_left_of ?_
  unfold t_left_of
  walk_at "bl"
  exact k
/-- a direction of a whole length -/
structure DirOk (n : Nat) (v : P2) : Prop where
  ne : v ≠ (0, 0)
  w : Whole (dot v v)
  s1 : sm n v.1
  s2 : sm n v.2
theorem rot4 (v : P2) : rot 4 v = v := by
  show (0 - (0 - v.1), 0 - (0 - v.2)) = v
  exact Prod.ext (by show 0 - (0 - v.1) = v.1; omega) (by show 0 - (0 - v.2) = v.2; omega)
theorem rot_ne {v : P2} (h : v ≠ (0, 0)) : ∀ n : Nat, rot n v ≠ (0, 0)
  | 0 => h
  | n + 1 => fun z => rot_ne h n (by
    have h1 : 0 - (rot n v).2 = 0 := congrArg Prod.fst z
    have h2 : (rot n v).1 = 0 := congrArg Prod.snd z
    exact Prod.ext h2 (by show (rot n v).2 = 0; omega))
theorem rot_sm {v : P2} {m : Nat} (h1 : sm m v.1) (h2 : sm m v.2) : ∀ n : Nat, sm m (rot n v).1 ∧ sm m (rot n v).2
  | 0 => ⟨h1, h2⟩
  | n + 1 => by
    obtain ⟨a, b⟩ := rot_sm h1 h2 n
    exact ⟨by show sm m (0 - (rot n v).2); unfold sm at *; omega, a⟩
theorem DirOk.rot {m : Nat} {v : P2} (h : DirOk m v) (n : Nat) : DirOk m (rot n v) := ⟨rot_ne h.ne n, by rw [rot_dot]; exact h.w, (rot_sm h.s1 h.s2 n).1, (rot_sm h.s1 h.s2 n).2⟩
theorem dot_nonneg (v : P2) : 0 ≤ dot v v := by
  have := far_nonneg (0, 0) v
  have e : far (0, 0) v = dot v v := by
    unfold far dif dot
    dsimp only
    grind
  omega
theorem dot_pos {v : P2} (h : v ≠ (0, 0)) : 0 < dot v v := by
  have e : far (0, 0) v = dot v v := by
    unfold far dif dot
    dsimp only
    grind
  have h1 := far_nonneg (0, 0) v
  have : far (0, 0) v ≠ 0 := fun z => h (far_zero z).symm
  omega
theorem Whole.isq {n : Int} (h : Whole n) : (isq n.toNat : Int) * isq n.toNat = n := by
  obtain ⟨r, r0, rfl⟩ := h
  obtain ⟨m, rfl⟩ := Int.eq_ofNat_of_zero_le r0
  have e : ((m : Int) * m).toNat = m * m := by
    have : ((m : Int) * m) = ((m * m : Nat) : Int) := by push_cast; rfl
    rw [this, Int.toNat_natCast]
  rw [e, isq_sq]
def lenq (v : P2) : Int := isq (dot v v).toNat
theorem lenq_sq {m : Nat} {v : P2} (h : DirOk m v) : lenq v * lenq v = dot v v := h.w.isq
theorem lenq_pos {v : P2} (h : v ≠ (0, 0)) : 0 < lenq v := by
  have h1 := dot_pos h
  have := isq_pos (n := (dot v v).toNat) (by omega)
  unfold lenq
  omega
theorem sm_dot {a b : P2} {n : Nat} (a1 : sm n a.1) (a2 : sm n a.2) (b1 : sm n b.1) (b2 : sm n b.2) : sm (n + n + 1) (dot a b) := (a1.mul b1).add (a2.mul b2)
theorem sm_crs {a b : P2} {n : Nat} (a1 : sm n a.1) (a2 : sm n a.2) (b1 : sm n b.1) (b2 : sm n b.2) : sm (n + n + 1) (crs a b) := (a1.mul b2).sub (a2.mul b1)
theorem lenq_sm {n : Nat} {v : P2} (s1 : sm n v.1) (s2 : sm n v.2) : sm (n + n + 1) (lenq v) := isq_sm (dot_nonneg v) (sm_dot s1 s2 s1 s2)
theorem lenq_rot (v : P2) (n : Nat) : lenq (rot n v) = lenq v := by unfold lenq; rw [rot_dot]
theorem length_spec {v : P2} {n : Nat} {S : Sto} {Q : DK} {E : EK} (s1 : sm n v.1) (s2 : sm n v.2) (hn : n ≤ 1000) (k : Q (.int (lenq v)) S) : m_length_of [pt v] S Q E := by
  refine e_length_of ?_
  unfold t_length_of
  walk_at "bl"
  refine dot_spec s1 s2 s1 s2 (by omega) ?_
  walk_at "bl"
  exact whole_root_spec (dot_nonneg v) (sm_dot s1 s2 s1 s2) (by omega) k
/-- whether less than a quarter lies between -/
def cnd (h l : P2) : Prop := 0 ≤ crs h l ∧ 0 < dot h l
instance (h l : P2) : Decidable (cnd h l) := by unfold cnd; infer_instance
theorem crs_rot1 (f l : P2) : crs (rot 1 f) l = - dot f l := by
  unfold crs dot
  show (0 - f.2) * l.2 - f.1 * l.1 = _
  grind
theorem dot_rot1 (f l : P2) : dot (rot 1 f) l = crs f l := by
  unfold crs dot
  show (0 - f.2) * l.1 + f.1 * l.2 = _
  grind
theorem lagrange (f l : P2) : dot f l * dot f l + crs f l * crs f l = dot f f * dot l l := by
  unfold crs dot
  grind
/-- how many quarters, of unlike directions -/
def qk (f l : P2) : Nat := if f = l then 4 else if cnd f l then 0 else if cnd (rot 1 f) l then 1 else if cnd (rot 2 f) l then 2 else 3
theorem cnd3 {f l : P2} (hf : f ≠ (0, 0)) (hl : l ≠ (0, 0)) (h0 : ¬ cnd f l) (h1 : ¬ cnd (rot 1 f) l) (h2 : ¬ cnd (rot 2 f) l) : cnd (rot 3 f) l := by
  have p := Int.mul_pos (dot_pos hf) (dot_pos hl)
  rw [← lagrange] at p
  unfold cnd at *
  have e2 : rot 2 f = rot 1 (rot 1 f) := rfl
  have e3 : rot 3 f = rot 1 (rot 1 (rot 1 f)) := rfl
  rw [e2] at h2
  rw [e3]
  simp only [crs_rot1, dot_rot1] at h1 h2 ⊢
  have : ¬ (dot f l = 0 ∧ crs f l = 0) := fun z => by
    rw [z.1, z.2] at p
    omega
  omega
theorem qk_cnd {f l : P2} (hf : f ≠ (0, 0)) (hl : l ≠ (0, 0)) (hne : f ≠ l) : cnd (rot (qk f l) f) l ∧ ∀ j < qk f l, ¬ cnd (rot j f) l := by
  unfold qk
  rw [if_neg hne]
  split
  · exact ⟨by assumption, fun j hj => by omega⟩
  · rename_i h0
    split
    · refine ⟨by assumption, fun j hj => ?_⟩
      obtain rfl : j = 0 := by omega
      exact h0
    · rename_i h1
      split
      · refine ⟨by assumption, fun j hj => ?_⟩
        rcases (by omega : j = 0 ∨ j = 1) with rfl | rfl
        · exact h0
        · exact h1
      · rename_i h2
        refine ⟨cnd3 hf hl h0 h1 h2, fun j hj => ?_⟩
        rcases (by omega : j = 0 ∨ j = 1 ∨ j = 2) with rfl | rfl | rfl
        · exact h0
        · exact h1
        · exact h2
theorem qk_le (f l : P2) : qk f l ≤ 4 := by
  unfold qk
  split
  · omega
  · split
    · omega
    · split
      · omega
      · split <;> omega
theorem pt_eq (a b : P2) : eqD (pt a) (pt b) = decide (a = b) := by
  show (a.1 == b.1 && (a.2 == b.2 && true)) = _
  rw [Bool.eq_iff_iff]
  simp only [Bool.and_eq_true, beq_iff_eq, and_true, decide_eq_true_eq]
  exact ⟨fun h => Prod.ext h.1 h.2, fun h => by rw [h]; exact ⟨rfl, rfl⟩⟩
theorem ok_pt (a : P2) : okD (pt a) := ⟨rfl, rfl⟩
theorem eq_pt {a b : P2} {S : Sto} {Q : DK} (k : Q (.bl (decide (a = b))) S) : fEq (pt a) (pt b) S Q := ⟨ok_pt _, ok_pt _, by rw [pt_eq]; exact k⟩
theorem quarters_spec {f l : P2} {n : Nat} {S : Sto} {Q : DK} {E : EK} (hf : DirOk n f) (hl : DirOk n l) (hn : n ≤ 1000) (k : Q (.tup [.int (qk f l), pt (rot (qk f l) f)]) S) : m_quarters [pt f, pt l] S Q E := by
  refine e_quarters ?_
  unfold t_quarters
  walk_at "bl"
  refine eq_pt ?_
  walk_at "bl"
  refine Go.ifD (fun h => ?_) fun h => ?_
  · walk_at "bl"
    have e : qk f l = 4 := if_pos h
    rw [e, rot4] at k
    exact k
  walk_at "bl"
  obtain ⟨c, nc⟩ := qk_cnd hf.ne hl.ne h
  refine Go.while' (fun m e s => ∃ j : Nat, e = [some (pt f), some (pt l), some (.int j), some (pt (rot j f))] ∧ s = S ∧ j ≤ qk f l ∧ m = 4 - j) 4 ⟨0, rfl, rfl, Nat.zero_le _, rfl⟩ ?_
  rintro m e s ⟨j, rfl, rfl, hj, rfl⟩
  obtain ⟨r1, r2⟩ := rot_sm hf.s1 hf.s2 j
  have hq := qk_le f l
  have stop : cnd (rot j f) l → j = qk f l := fun hc => by
    rcases Nat.lt_or_ge j (qk f l) with z | z
    · exact absurd hc (nc j z)
    · omega
  have go : ¬ cnd (rot j f) l → j < qk f l := fun hc => by
    rcases Nat.lt_or_ge j (qk f l) with z | z
    · exact z
    · have : j = qk f l := by omega
      rw [this] at hc
      exact absurd c hc
  walk_at "bl"
  refine cross_spec r1 r2 hl.s1 hl.s2 (by omega) ?_
  walk_at "bl"
  refine Go.ifD (fun h1 => ?_) fun h1 => ?_
  · walk_at "bl"
    refine dot_spec r1 r2 hl.s1 hl.s2 (by omega) ?_
    walk_at "bl"
    refine Go.ifD (fun h2 => ?_) fun h2 => ?_
    · have e := stop ⟨h1, h2⟩
      subst e
      walk_at "bl"
      exact k
    · have g := go fun z => h2 z.2
      walk_at "bl"
      refine left_spec (n := n) ?_
      walk_at "bl"
      exact ⟨_, (by omega : 4 - (j + 1) < 4 - j), j + 1, rfl, rfl, by omega, rfl⟩
  · have g := go fun z => h1 z.1
    walk_at "bl"
    refine left_spec (n := n) ?_
    walk_at "bl"
    exact ⟨_, (by omega : 4 - (j + 1) < 4 - j), j + 1, rfl, rfl, by omega, rfl⟩
/-- how long a round is: its quarters, and the sine by one and the cosine of the rest -/
def restR (h l : P2) : Rat := (crs h l : Int) / ((lenq h * lenq l + dot h l : Int) : Rat)
def lenR : Fc → Rat
  | .side _ _ => 1
  | .round _ _ f l => (qk f l : Int) + restR (rot (qk f l) f) l
theorem qk_dot {n : Nat} {f l : P2} (hf : DirOk n f) (hl : DirOk n l) : 0 < dot (rot (qk f l) f) l := by
  by_cases h : f = l
  · have e : qk f l = 4 := if_pos h
    rw [e, rot4, h]
    exact dot_pos hl.ne
  · exact (qk_cnd hf.ne hl.ne h).1.2
theorem rest_pos {n : Nat} {f l : P2} (hf : DirOk n f) (hl : DirOk n l) : 0 < lenq (rot (qk f l) f) * lenq l + dot (rot (qk f l) f) l := by
  have h1 := Int.mul_pos (lenq_pos (rot_ne hf.ne (qk f l))) (lenq_pos hl.ne)
  have := qk_dot hf hl
  omega
theorem rest_mul {p q : Int} (h : q ≠ 0) : ((p : Rat) / (q : Rat)) * (q : Rat) = (p : Rat) := Rat.div_mul_cancel (castne h)
theorem rest_spec {h l : P2} {n : Nat} {S : Sto} {Q : DK} {E : EK} (h1 : sm n h.1) (h2 : sm n h.2) (l1 : sm n l.1) (l2 : sm n l.2) (hn : n ≤ 100) (hp : 0 < lenq h * lenq l + dot h l) (k : Q (fr (restR h l)) S) : m_rest_of [pt h, pt l] S Q E := by
  refine e_rest_of ?_
  unfold t_rest_of
  walk_at "bl"
  refine length_spec h1 h2 (by omega) ?_
  walk_at "bl"
  refine length_spec l1 l2 (by omega) ?_
  walk_at "bl"
  have e1 := lenq_sm h1 h2
  have e2 := lenq_sm l1 l2
  have e3 := e1.mul e2
  refine Go.mul (e1.cmul e2 (by omega)) ?_
  walk_at "bl"
  refine cross_spec h1 h2 l1 l2 (by omega) ?_
  walk_at "bl"
  refine dot_spec h1 h2 l1 l2 (by omega) ?_
  walk_at "bl"
  exact frac_spec (n := 4 * n + 3) (by omega) ((sm_crs h1 h2 l1 l2).mono (by omega)) ((e3.add ((sm_dot h1 h2 l1 l2).mono (by omega))).mono (by omega)) (by omega) (rest_mul (by omega)) k
theorem restR_sr {h l : P2} {n : Nat} (h1 : sm n h.1) (h2 : sm n h.2) (l1 : sm n l.1) (l2 : sm n l.2) (hp : 0 < lenq h * lenq l + dot h l) : sr (4 * n + 3) (restR h l) := by
  have e1 := lenq_sm h1 h2
  have e2 := lenq_sm l1 l2
  have e3 := e1.mul e2
  obtain ⟨a, b⟩ := low_sm (r := restR h l) (by omega) (rest_mul (by omega)) ((sm_crs h1 h2 l1 l2).mono (by omega : _ ≤ 4 * n + 3)) ((e3.add ((sm_dot h1 h2 l1 l2).mono (by omega))).mono (by omega : _ ≤ 4 * n + 3))
  exact ⟨a, b⟩
def FcGood (n : Nat) : Fc → Prop
  | .side a b => a ≠ b ∧ Bd a ∧ Bd b ∧ Whole (far a b)
  | .round c r f l => DirOk n f ∧ DirOk n l ∧ Bd c ∧ 0 ≤ r ∧ sm 25 r
theorem lenR_sr {n : Nat} {f : Fc} (h : FcGood n f) : sr (4 * n + 7) (lenR f) := by
  cases f with
  | side a b => exact (sr.int (m := 1) (i := 1) (sm.of (by decide)) (by decide)).mono (by omega)
  | round c r f l =>
    obtain ⟨hf, hl, _⟩ := h
    obtain ⟨r1, r2⟩ := rot_sm hf.s1 hf.s2 (qk f l)
    have h1 := restR_sr r1 r2 hl.s1 hl.s2 (rest_pos hf hl)
    have h2 : sr 3 (((qk f l : Nat) : Int) : Rat) := sr.int (by have := qk_le f l; unfold sm; omega) (by decide)
    exact (h2.add h1).mono (by omega)
theorem plus_fr' {a b : Rat} {n : Nat} {S : Sto} {Q : DK} {E : EK} (ha : sr n a) (hb : sr n b) (hn : n ≤ 4440) (k : Q (fr (a + b)) S) : m_plus [fr a, fr b] S Q E := plus_fr ha hb hn k
theorem face_length_spec {n : Nat} {f : Fc} {S : Sto} {Q : DK} {E : EK} (h : FcGood n f) (hn : n ≤ 100) (k : Q (fr (lenR f)) S) : m_face_length [fcD f] S Q E := by
  refine e_face_length ?_
  unfold t_face_length
  cases f with
  | side a b =>
    unfold fcD
    walk_at "bl"
    exact k
  | round c r f l =>
    obtain ⟨hf, hl, _⟩ := h
    obtain ⟨r1, r2⟩ := rot_sm hf.s1 hf.s2 (qk f l)
    have hp := rest_pos hf hl
    unfold fcD
    walk_at "bl"
    refine quarters_spec hf hl (by omega) ?_
    walk_at "bl"
    refine rest_spec r1 r2 hl.s1 hl.s2 hn hp ?_
    walk_at "bl"
    have h1 := restR_sr r1 r2 hl.s1 hl.s2 hp
    have h2 : sr 3 (((qk f l : Nat) : Int) : Rat) := sr.int (by have := qk_le f l; unfold sm; omega) (by decide)
    exact plus_fr' (a := ((qk f l : Nat) : Int)) (b := restR (rot (qk f l) f) l) (n := 4 * n + 3) (h2.mono (by omega)) h1 (by omega) k
/-- a loop over made items -/
theorem forD_map {α : Type} {f : α → D} {g : Tg} {b : TSd} {N : Nd} (P : List α → Ev → Sto → Prop) (turn : ∀ x xs env S, P (x :: xs) env S → ∃ e1, asgT S g (f x) env = some e1 ∧ ∀ N' : Nd, (∀ e s, P xs e s → N'.nx e s) → (∀ e s, P xs e s → N'.ct e s) → N'.rt = N.rt → N'.bk = N.nx → N'.ex = N.ex → b e1 S N') (fin : ∀ env S, P [] env S → N.nx env S) : ∀ (xs : List α) {env : Ev} {S : Sto}, P xs env S → forD g b (xs.map f) env S N
  | [], env, S, h => fin env S h
  | x :: xs, env, S, h => by
    obtain ⟨e1, ea, hb⟩ := turn x xs env S h
    rw [List.map_cons]
    unfold forD
    rw [ea]
    exact hb _ (fun e s q => forD_map P turn fin xs q) (fun e s q => forD_map P turn fin xs q) rfl rfl rfl
def sumR (r : Rat) : List Fc → Rat
  | [] => r
  | f :: fs => sumR (r + lenR f) fs
def aroundR (t : Th) : Rat := sumR 0 (facesL t)
/-! the faces are good -/
theorem Whole.mul_of {g m : Int} (hg : 0 < g) (hm : 0 ≤ m) (h : Whole (g * g * m)) : Whole m := by
  obtain ⟨r, r0, e⟩ := h
  obtain ⟨G, rfl⟩ := Int.eq_ofNat_of_zero_le (show 0 ≤ g by omega)
  obtain ⟨M, rfl⟩ := Int.eq_ofNat_of_zero_le hm
  obtain ⟨R, rfl⟩ := Int.eq_ofNat_of_zero_le r0
  have e' : G * G * M = R * R := by exact_mod_cast e
  have hd : G ^ 2 ∣ R ^ 2 := ⟨M, by rw [Nat.pow_two, Nat.pow_two, e']⟩
  have hd2 : G ∣ R := (Nat.pow_dvd_pow_iff (by decide)).mp hd
  obtain ⟨T, rfl⟩ := hd2
  refine ⟨T, by omega, ?_⟩
  have hG : 0 < G * G := Nat.mul_pos (by omega) (by omega)
  have : G * G * M = G * G * (T * T) := by
    rw [e']
    grind
  have := Nat.eq_of_mul_eq_mul_left hG this
  rw [this]
  push_cast
  rfl
theorem low_mul {d : P2} (h : d ≠ (0, 0)) : d.1 = (Int.gcd d.1 d.2 : Int) * (low d).1 ∧ d.2 = (Int.gcd d.1 d.2 : Int) * (low d).2 := by
  have g := gcd_pos' h
  have h1 : (Int.gcd d.1 d.2 : Int) ∣ d.1 := Int.gcd_dvd_left ..
  have h2 : (Int.gcd d.1 d.2 : Int) ∣ d.2 := Int.gcd_dvd_right ..
  exact ⟨(Int.mul_ediv_cancel' h1).symm, (Int.mul_ediv_cancel' h2).symm⟩
theorem low_ok {n : Nat} {d : P2} (h : d ≠ (0, 0)) (w : Whole (dot d d)) (h1 : sm n d.1) (h2 : sm n d.2) : DirOk n (low d) := by
  obtain ⟨e1, e2⟩ := low_mul h
  have g := gcd_pos' h
  have ne : low d ≠ (0, 0) := fun z => by
    rw [z] at e1 e2
    exact h (Prod.ext (by rw [e1]; show _ * (0 : Int) = 0; omega) (by rw [e2]; show _ * (0 : Int) = 0; omega))
  have le : ∀ {a b c : Int}, 0 < b → a = b * c → sm n a → sm n c := fun {a b c} hb e hs => by
    unfold sm at *
    rw [e, Int.natAbs_mul] at hs
    have : c.natAbs ≤ b.natAbs * c.natAbs := Nat.le_mul_of_pos_left _ (by omega)
    omega
  refine ⟨ne, Whole.mul_of g (dot_nonneg _) ?_, le g e1 h1, le g e2 h2⟩
  have : dot d d = (Int.gcd d.1 d.2 : Int) * (Int.gcd d.1 d.2 : Int) * dot (low d) (low d) := by
    generalize (Int.gcd d.1 d.2 : Int) = G at *
    unfold dot
    rw [e1, e2]
    generalize low d = L at *
    grind
  rw [← this]
  exact w
theorem dir_of {a b : P2} (h : a ≠ b) (ha : Bd a) (hb : Bd b) (w : Whole (far b a)) : DirOk 12 (low (dif a b)) := by
  obtain ⟨s1, s2⟩ := sm_dif ha hb
  refine low_ok (dif_ne h) ?_ s1 s2
  have e : dot (dif a b) (dif a b) = far b a := by
    unfold far dif dot
    dsimp only
    grind
  rw [e]
  exact w
theorem outw_ok {a b : P2} (h : a ≠ b) (ha : Bd a) (hb : Bd b) (w : Whole (far a b)) : DirOk 12 (outw a b) := by
  obtain ⟨s1, s2⟩ := sm_dif hb ha
  refine low_ok (fun z => dif_ne (Ne.symm h) ?_) ?_ s2 (by unfold sm at *; show (0 - (dif b a).1).natAbs < _; omega)
  · have z1 : (dif b a).2 = 0 := congrArg Prod.fst z
    have z2 : 0 - (dif b a).1 = 0 := congrArg Prod.snd z
    exact Prod.ext (by show (dif b a).1 = 0; omega) z1
  · have e : dot ((dif b a).2, 0 - (dif b a).1) ((dif b a).2, 0 - (dif b a).1) = far a b := by
      unfold far dif dot
      dsimp only
      grind
    rw [e]
    exact w
theorem far_comm (a b : P2) : far a b = far b a := by
  unfold far dif dot
  dsimp only
  grind
theorem faces_good {t : Th} (h : GoodTh t) : ∀ f ∈ facesL t, FcGood 12 f := by
  have one : DirOk 12 (1, 0) := ⟨by decide, ⟨1, by decide, by decide⟩, sm.of (by decide), sm.of (by decide)⟩
  have z25 : sm 25 0 := sm.of (by decide)
  cases t with
  | spot p =>
    intro f hf
    rw [List.mem_singleton.mp hf]
    exact ⟨one, one, h, by decide, z25⟩
  | cord p q =>
    obtain ⟨hp, hq, hne, w⟩ := h
    have w' : Whole (far q p) := by rw [far_comm]; exact w
    have o1 := outw_ok hne hp hq w
    have o2 := outw_ok (Ne.symm hne) hq hp w'
    intro f hf
    simp only [facesL, List.mem_cons, List.not_mem_nil, or_false] at hf
    rcases hf with rfl | rfl | rfl | rfl
    · exact ⟨hne, hp, hq, w⟩
    · exact ⟨o1, o2, hq, by decide, z25⟩
    · exact ⟨Ne.symm hne, hq, hp, w'⟩
    · exact ⟨o2, o1, hp, by decide, z25⟩
  | bow c p q =>
    obtain ⟨hc, hp, hq, hb⟩ := h
    obtain ⟨np, nq⟩ := hb.np
    have w' : Whole (far q p) := by rw [far_comm]; exact hb.wd
    have o2 := outw_ok (Ne.symm hb.ne) hq hp w'
    have d1 := dir_of np hp hc hb.wr
    have d2 := dir_of nq hq hc (by rw [← hb.eq]; exact hb.wr)
    intro f hf
    simp only [facesL, List.mem_cons, List.not_mem_nil, or_false] at hf
    rcases hf with rfl | rfl | rfl | rfl
    · exact ⟨d1, d2, hc, by omega, isq_sm (far_nonneg c p) (sm_far hc hp)⟩
    · exact ⟨d2, o2, hq, by decide, z25⟩
    · exact ⟨Ne.symm hb.ne, hq, hp, w'⟩
    · exact ⟨o2, d1, hp, by decide, z25⟩
theorem around_loop {t : Th} (ht : GoodTh t) {m : TFd} (hm : ∀ (f : Fc) (S : Sto) (Q : DK) (E : EK), FcGood 12 f → Q (fr (lenR f)) S → m [fcD f] S Q E) {pl : TFd} (hp : ∀ (a b : Rat) (S : Sto) (Q : DK) (E : EK), sr 400 a → sr 400 b → Q (fr (a + b)) S → pl [fr a, fr b] S Q E) {o2 : Option D} {S : Sto} {N : Nd} (k : ∀ o2, N.nx [some (thD t), some (fr (aroundR t)), o2] S) :
    forD (.nm 2) (sAsg (dCall pl 2 0 (fun ds _ => ds) (aCons (vr 1) (aCons (dCall m 1 0 (fun ds _ => ds) (aCons (vr 2) (aNil)) aNil) (aNil))) aNil) (.nm 1)) ((facesL t).map fcD) [some (thD t), some (fr 0), o2] S N := by
  have hl : (facesL t).length ≤ 4 := by cases t <;> simp [facesL]
  have hg := faces_good ht
  refine forD_map (fun xs e s => ∃ (r : Rat) (o : Option D), e = [some (thD t), some (fr r), o] ∧ s = S ∧ sumR r xs = aroundR t ∧ sr (57 * (4 - xs.length) + 1) r ∧ xs.length ≤ 4 ∧ ∀ f ∈ xs, FcGood 12 f) ?_ ?_ (facesL t) ⟨0, _, rfl, rfl, rfl, sr.zero (m := 57 * (4 - (facesL t).length)), hl, hg⟩
  · rintro f xs e s ⟨r, o, rfl, rfl, hs, hr, hx, hf⟩
    refine ⟨_, rfl, fun N' hnx _ _ _ _ => ?_⟩
    show sAsg _ _ [some (thD t), some (fr r), some (fcD f)] _ _
    walk_at "bl"
    have hf0 := hf f (List.mem_cons_self ..)
    refine hm f _ _ _ hf0 ?_
    walk_at "bl"
    have h1 := lenR_sr hf0
    rw [List.length_cons] at hr hx
    refine hp _ _ _ _ _ (hr.mono (by omega)) (h1.mono (by omega)) ?_
    walk_at "bl"
    refine hnx _ _ ⟨r + lenR f, _, rfl, rfl, hs, (hr.add h1).mono ?_, by omega, fun f' hf' => hf f' (List.mem_cons_of_mem _ hf')⟩
    omega
  · rintro e s ⟨r, o, rfl, rfl, hs, hr, hx, hf⟩
    have : r = aroundR t := hs
    rw [this]
    exact k o
theorem around_spec {t : Th} {S : Sto} {Q : DK} {E : EK} (h : GoodTh t) (k : Q (fr (aroundR t)) S) : m_around [thD t] S Q E := by
  refine e_around ?_
  unfold t_around
  walk_at "bl"
  refine faces_spec h ?_
  unfold fcsD
  walk_at "bl"
  refine around_loop h (fun f S Q E hf k => face_length_spec hf (by decide) k) (fun a b S Q E ha hb k => plus_fr ha hb (by decide) k) fun o => ?_
  walk_at "bl"
  exact k
theorem l_length_spec {f : Fc} {S : Sto} {Q : DK} {E : EK} (h : FcGood 12 f) (k : Q (fr (lenR f)) S) : m_l_length [fcD f] S Q E := by
  refine e_l_length ?_
  unfold t_l_length
  cases f with
  | side a b =>
    unfold fcD
    walk_at "bl"
    exact k
  | round c r f l =>
    obtain ⟨hf, hl, _⟩ := h
    unfold fcD
    walk_at "bl"
    refine eq_pt ?_
    walk_at "bl"
    have hmul : CMul' 4 (if decide (f = l) = true then 1 else 0) := (sm.of (n := 3) (by decide)).cmul (n := 1) (by unfold sm; split <;> decide) (by decide)
    refine Go.mul hmul ?_
    walk_at "bl"
    have hq := qk_le f l
    have q3 : f ≠ l → qk f l ≤ 3 := fun h => by
      unfold qk
      rw [if_neg h]
      split
      · omega
      · split
        · omega
        · split <;> omega
    have ej : ∃ j0 : Nat, (4 * (if decide (f = l) = true then 1 else 0) : Int) = j0 ∧ j0 ≤ qk f l ∧ (f = l → j0 = 4) ∧ rot j0 f = f := by
      by_cases e : f = l
      · exact ⟨4, by rw [if_pos (decide_eq_true e)]; rfl, by unfold qk; rw [if_pos e]; omega, fun _ => rfl, rot4 f⟩
      · exact ⟨0, by rw [if_neg (by simpa using e)]; rfl, Nat.zero_le _, fun z => absurd z e, rfl⟩
    obtain ⟨j0, e0, j1, j2, j3⟩ := ej
    rw [e0]
    refine Go.while' (fun m e s => ∃ j : Nat, e = [some (fcD (.round c r f l)), some (.int (rot j f).1), some (.int (rot j f).2), some (.int l.1), some (.int l.2), some (.int j), none] ∧ s = S ∧ j ≤ qk f l ∧ (f = l → j = 4) ∧ m = 4 - j) (4 - j0) ⟨j0, by rw [j3]; rfl, rfl, j1, j2, rfl⟩ ?_
    rintro m e s ⟨j, rfl, rfl, hj, hj4, rfl⟩
    obtain ⟨r1, r2⟩ := rot_sm hf.s1 hf.s2 j
    -- behind the loop
    have fin : j = qk f l → (sSeq (sAsg (dCall m_l_root_of 1 0 (fun ds _ => ds) (aCons (dTwo (dTwo (dTwo (vr 1) (vr 1) fMul) (dTwo (vr 2) (vr 2) fMul) fAdd) (dTwo (dTwo (vr 3) (vr 3) fMul) (dTwo (vr 4) (vr 4) fMul) fAdd) fMul) (aNil)) aNil) (.nm 6)) (sRet (dCall m_l_plus 2 0 (fun ds _ => ds) (aCons (dTup (aCons (vr 5) (aCons (cn (.int 1)) (aNil)))) (aCons (dCall m_l_low 2 0 (fun ds _ => ds) (aCons (dTwo (dTwo (vr 1) (vr 4) fMul) (dTwo (vr 2) (vr 3) fMul) fSub) (aCons (dTwo (dTwo (vr 6) (dTwo (vr 1) (vr 3) fMul) fAdd) (dTwo (vr 2) (vr 4) fMul) fAdd) (aNil))) aNil) (aNil))) aNil)))
        [some (fcD (.round c r f l)), some (.int (rot j f).1), some (.int (rot j f).2), some (.int l.1), some (.int l.2), some (.int j), none] s ⟨fun _ S1 => Q .non S1, Q, fun _ _ => False, fun _ _ => False, fun x _ S1 => E x S1⟩ := fun ej => by
      subst ej
      have hp := rest_pos hf hl
      have m1 := r1.mul r1
      have m2 := r2.mul r2
      have m3 := hl.s1.mul hl.s1
      have m4 := hl.s2.mul hl.s2
      walk_at "bl"
      refine Go.mul (r1.cmul r1 (by decide)) ?_
      walk_at "bl"
      refine Go.mul (r2.cmul r2 (by decide)) ?_
      walk_at "bl"
      refine Go.mul (hl.s1.cmul hl.s1 (by decide)) ?_
      walk_at "bl"
      refine Go.mul (hl.s2.cmul hl.s2 (by decide)) ?_
      walk_at "bl"
      refine Go.mul ((m1.add m2).cmul (m3.add m4) (by decide)) ?_
      walk_at "bl"
      have hd1 := lenq_sq (hf.rot (qk f l))
      have hd2 := lenq_sq hl
      have e1 := lenq_sm r1 r2
      have e2 := lenq_sm hl.s1 hl.s2
      have p1 := lenq_pos (rot_ne hf.ne (qk f l))
      have p2 := lenq_pos hl.ne
      have es : ((rot (qk f l) f).1 * (rot (qk f l) f).1 + (rot (qk f l) f).2 * (rot (qk f l) f).2) * (l.1 * l.1 + l.2 * l.2) = (lenq (rot (qk f l) f) * lenq l) * (lenq (rot (qk f l) f) * lenq l) := by
        have h1 : (rot (qk f l) f).1 * (rot (qk f l) f).1 + (rot (qk f l) f).2 * (rot (qk f l) f).2 = lenq (rot (qk f l) f) * lenq (rot (qk f l) f) := hd1.symm
        have h2 : l.1 * l.1 + l.2 * l.2 = lenq l * lenq l := hd2.symm
        rw [h1, h2]
        grind
      rw [es]
      have hn := Int.mul_pos p1 p2
      refine root_of_spec (Int.mul_nonneg (by omega) (by omega)) ((e1.mul e2).mul (e1.mul e2)) (by decide) ?_
      rw [show isq ((lenq (rot (qk f l) f) * lenq l) * (lenq (rot (qk f l) f) * lenq l)).toNat = (lenq (rot (qk f l) f) * lenq l).toNat from by
        obtain ⟨M, hM⟩ := Int.eq_ofNat_of_zero_le (show 0 ≤ lenq (rot (qk f l) f) * lenq l by omega)
        rw [hM]
        have : ((M : Int) * M) = ((M * M : Nat) : Int) := by push_cast; rfl
        rw [this, Int.toNat_natCast, isq_sq, Int.toNat_natCast]]
      rw [show ((lenq (rot (qk f l) f) * lenq l).toNat : Int) = lenq (rot (qk f l) f) * lenq l by omega]
      walk_at "bl"
      refine Go.mul (r1.cmul hl.s2 (by decide)) ?_
      walk_at "bl"
      refine Go.mul (r2.cmul hl.s1 (by decide)) ?_
      walk_at "bl"
      refine Go.mul (r1.cmul hl.s1 (by decide)) ?_
      walk_at "bl"
      refine Go.mul (r2.cmul hl.s2 (by decide)) ?_
      walk_at "bl"
      have ed : lenq (rot (qk f l) f) * lenq l + (rot (qk f l) f).1 * l.1 + (rot (qk f l) f).2 * l.2 = lenq (rot (qk f l) f) * lenq l + dot (rot (qk f l) f) l := by
        unfold dot
        omega
      rw [ed]
      refine low_spec (n := 51) (r := restR (rot (qk f l) f) l) (by omega) ((sm_crs r1 r2 hl.s1 hl.s2).mono (by decide)) (((e1.mul e2).add ((sm_dot r1 r2 hl.s1 hl.s2).mono (by decide))).mono (by decide)) (by decide) (rest_mul (by omega)) ?_
      walk_at "bl"
      have h1 := restR_sr r1 r2 hl.s1 hl.s2 hp
      have h2 : sr 3 (((qk f l : Nat) : Int) : Rat) := sr.int (by unfold sm; omega) (by decide)
      exact lplus_fr (a := ((qk f l : Nat) : Int)) (b := restR (rot (qk f l) f) l) (n := 51) (h2.mono (by decide)) (h1.mono (by decide)) (by decide) k
    walk_at "bl"
    refine Go.ifD (fun h4 => ?_) fun h4 => ?_
    · have hne : f ≠ l := fun z => by have := hj4 z; omega
      obtain ⟨cq, nq⟩ := qk_cnd hf.ne hl.ne hne
      have stop : cnd (rot j f) l → j = qk f l := fun hc => by
        rcases Nat.lt_or_ge j (qk f l) with z | z
        · exact absurd hc (nq j z)
        · omega
      have go : ¬ cnd (rot j f) l → j < qk f l := fun hc => by
        rcases Nat.lt_or_ge j (qk f l) with z | z
        · exact z
        · have : j = qk f l := by omega
          rw [this] at hc
          exact absurd cq hc
      walk_at "bl"
      refine Go.mul (r1.cmul hl.s2 (by decide)) ?_
      walk_at "bl"
      refine Go.mul (r2.cmul hl.s1 (by decide)) ?_
      walk_at "bl"
      refine Go.ifD (fun h1 => ?_) fun h1 => ?_
      · walk_at "bl"
        refine Go.mul (r1.cmul hl.s1 (by decide)) ?_
        walk_at "bl"
        refine Go.mul (r2.cmul hl.s2 (by decide)) ?_
        walk_at "bl"
        refine Go.ifD (fun h2 => ?_) fun h2 => ?_
        · exact fin (stop ⟨h1, h2⟩)
        · have g := go fun z => h2 z.2
          walk_at "bl"
          exact ⟨_, (by omega : 4 - (j + 1) < 4 - j), j + 1, rfl, rfl, by omega, fun z => absurd z hne, rfl⟩
      · have g := go fun z => h1 z.1
        walk_at "bl"
        exact ⟨_, (by omega : 4 - (j + 1) < 4 - j), j + 1, rfl, rfl, by omega, fun z => absurd z hne, rfl⟩
    · refine fin ?_
      have := q3
      by_cases e : f = l
      · have := hj4 e; omega
      · have := q3 e; omega
theorem l_around_spec {t : Th} {S : Sto} {Q : DK} {E : EK} (h : GoodTh t) (k : Q (fr (aroundR t)) S) : m_l_around [thD t] S Q E := by
  refine e_l_around ?_
  unfold t_l_around
  walk_at "bl"
  refine lfaces_spec h ?_
  unfold fcsD
  walk_at "bl"
  refine around_loop h (fun f S Q E hf k => l_length_spec hf k) (fun a b S Q E ha hb k => lplus_fr ha hb (by decide) k) fun o => ?_
  walk_at "bl"
  exact k
end Lb

namespace Lb
open PySem PySem.Spec PyProof.Rows L2 Bl
def t_minus : TSd := sRet (dCall m_frac 2 0 (fun ds _ => ds ++ []) (aCons (dTwo (dTwo (dTwo (vr 0) (cn (.int 0)) fIx) (dTwo (vr 1) (cn (.int 1)) fIx) fMul) (dTwo (dTwo (vr 1) (cn (.int 0)) fIx) (dTwo (vr 0) (cn (.int 1)) fIx) fMul) fSub) (aCons (dTwo (dTwo (vr 0) (cn (.int 1)) fIx) (dTwo (vr 1) (cn (.int 1)) fIx) fMul) (aNil))) aNil)
def m_minus : TFd := fnD 2 2 t_minus
theorem e_minus {a0 a1 : D} {S : Sto} {Q : DK} {E : EK} (k : t_minus [some a0, some a1] S ⟨fun _ S1 => Q .non S1, Q, fun _ _ => False, fun _ _ => False, fun x _ S1 => E x S1⟩) : m_minus [a0, a1] S Q E := ⟨rfl, k⟩
def t_is_less : TSd := sRet (dTwo (dTwo (dTwo (vr 0) (cn (.int 0)) fIx) (dTwo (vr 1) (cn (.int 1)) fIx) fMul) (dTwo (dTwo (vr 1) (cn (.int 0)) fIx) (dTwo (vr 0) (cn (.int 1)) fIx) fMul) fLt)
def m_is_less : TFd := fnD 2 2 t_is_less
theorem e_is_less {a0 a1 : D} {S : Sto} {Q : DK} {E : EK} (k : t_is_less [some a0, some a1] S ⟨fun _ S1 => Q .non S1, Q, fun _ _ => False, fun _ _ => False, fun x _ S1 => E x S1⟩) : m_is_less [a0, a1] S Q E := ⟨rfl, k⟩
def t_beginnings : TSd := sSeq (sAsg (dLstR (aCons (cn k_ZERO) (aNil))) (.nm 1)) (sSeq (sFor (iVal (dCall m_faces 1 0 (fun ds _ => ds) (aCons (vr 0) (aNil)) aNil)) (.nm 2) (sDrop (dLm gApp (vr 1) (aCons (dCall m_plus 2 0 (fun ds _ => ds) (aCons (dTwo (vr 1) (dNeg (cn (.int 1))) fIx) (aCons (dCall m_face_length 1 0 (fun ds _ => ds) (aCons (vr 2) (aNil)) aNil) (aNil))) aNil) (aNil))))) (sRet (dSl (vr 1) (oNone) (oSome (dNeg (cn (.int 1)))))))
def m_beginnings : TFd := fnD 1 3 t_beginnings
theorem e_beginnings {a0 : D} {S : Sto} {Q : DK} {E : EK} (k : t_beginnings [some a0, none, none] S ⟨fun _ S1 => Q .non S1, Q, fun _ _ => False, fun _ _ => False, fun x _ S1 => E x S1⟩) : m_beginnings [a0] S Q E := ⟨rfl, k⟩
def t_over : TSd := sRet (dCall m_frac 2 0 (fun ds _ => ds ++ []) (aCons (dTwo (dTwo (vr 0) (cn (.int 0)) fIx) (dTwo (vr 1) (cn (.int 1)) fIx) fMul) (aCons (dTwo (dTwo (vr 0) (cn (.int 1)) fIx) (dTwo (vr 1) (cn (.int 0)) fIx) fMul) (aNil))) aNil)
def m_over : TFd := fnD 2 2 t_over
theorem e_over {a0 a1 : D} {S : Sto} {Q : DK} {E : EK} (k : t_over [some a0, some a1] S ⟨fun _ S1 => Q .non S1, Q, fun _ _ => False, fun _ _ => False, fun x _ S1 => E x S1⟩) : m_over [a0, a1] S Q E := ⟨rfl, k⟩
def t_turned : TSd := sSeq (sAsg (vr 0) (.nm 2)) (sSeq (sFor (iR1 (aCons (dTwo (dTwo (vr 1) (cn (.int 0)) fIx) (dTwo (vr 1) (cn (.int 1)) fIx) fDiv) (aNil))) (.nm 3) (sAsg (dCall m_left_of 1 0 (fun ds _ => ds) (aCons (vr 2) (aNil)) aNil) (.nm 2))) (sSeq (sAsg (dCall m_frac 2 0 (fun ds _ => ds ++ []) (aCons (dTwo (dTwo (vr 1) (cn (.int 0)) fIx) (dTwo (vr 1) (cn (.int 1)) fIx) fMod) (aCons (dTwo (vr 1) (cn (.int 1)) fIx) (aNil))) aNil) (.nm 4)) (sSeq (sAsg (dCall m_length_of 1 0 (fun ds _ => ds) (aCons (vr 2) (aNil)) aNil) (.nm 5)) (sSeq (sAsg (dCall m_times 2 0 (fun ds _ => ds) (aCons (vr 4) (aCons (vr 4) (aNil))) aNil) (.nm 6)) (sSeq (sPar [7, 8, 9] (aCons (dCall m_minus 2 0 (fun ds _ => ds) (aCons (cn k_ONE) (aCons (vr 6) (aNil))) aNil) (aCons (dCall m_plus 2 0 (fun ds _ => ds) (aCons (vr 4) (aCons (vr 4) (aNil))) aNil) (aCons (dCall m_plus 2 0 (fun ds _ => ds) (aCons (cn k_ONE) (aCons (vr 6) (aNil))) aNil) (aNil))))) (sSeq (sAsg (dLstR (aNil)) (.nm 10)) (sSeq (sFor (iZipSD (vr 2) (dCall m_left_of 1 0 (fun ds _ => ds) (aCons (vr 2) (aNil)) aNil)) (.tp (.nm 11 :: .nm 12 :: [])) (sSeq (sAsg (dCall m_plus 2 0 (fun ds _ => ds) (aCons (dCall m_times 2 0 (fun ds _ => ds) (aCons (vr 7) (aCons (dTup (aCons (vr 11) (aCons (cn (.int 1)) (aNil)))) (aNil))) aNil) (aCons (dCall m_times 2 0 (fun ds _ => ds) (aCons (vr 8) (aCons (dTup (aCons (vr 12) (aCons (cn (.int 1)) (aNil)))) (aNil))) aNil) (aNil))) aNil) (.nm 13)) (sDrop (dLm gApp (vr 10) (aCons (dCall m_over 2 0 (fun ds _ => ds) (aCons (vr 13) (aCons (dCall m_times 2 0 (fun ds _ => ds) (aCons (vr 9) (aCons (dTup (aCons (vr 5) (aCons (cn (.int 1)) (aNil)))) (aNil))) aNil) (aNil))) aNil) (aNil)))))) (sRet (dTup (aCons (dTwo (vr 10) (cn (.int 0)) fIx) (aCons (dTwo (vr 10) (cn (.int 1)) fIx) (aNil))))))))))))
def m_turned : TFd := fnD 2 14 t_turned
theorem e_turned {a0 a1 : D} {S : Sto} {Q : DK} {E : EK} (k : t_turned [some a0, some a1, none, none, none, none, none, none, none, none, none, none, none, none] S ⟨fun _ S1 => Q .non S1, Q, fun _ _ => False, fun _ _ => False, fun x _ S1 => E x S1⟩) : m_turned [a0, a1] S Q E := ⟨rfl, k⟩
def t_spoke_of : TSd := sSeq (sIf (tbl (dTwo (dTwo (vr 0) (cn (.int 0)) fIx) (cn (.str "side")) fEq)) (sSeq (sAsg (dSl (vr 0) (oSome (cn (.int 1))) (oNone)) (.tp (.nm 2 :: .nm 3 :: []))) (sSeq (sAsg (dCall m_outward 2 0 (fun ds _ => ds) (aCons (vr 2) (aCons (vr 3) (aNil))) aNil) (.tp (.nm 4 :: .nm 5 :: []))) (sSeq (sAsg (dCall m_length_of 1 0 (fun ds _ => ds) (aCons (dTup (aCons (vr 4) (aCons (vr 5) (aNil)))) (aNil)) aNil) (.nm 6)) (sSeq (sAsg (dB bTup (aCons (dLc (iZipD (vr 2) (vr 3)) (.tp (.nm 14 :: .nm 15 :: [])) (tYesD) (dCall m_plus 2 0 (fun ds _ => ds) (aCons (dTup (aCons (vr 14) (aCons (cn (.int 1)) (aNil)))) (aCons (dCall m_times 2 0 (fun ds _ => ds) (aCons (vr 1) (aCons (dTup (aCons (dTwo (vr 15) (vr 14) fSub) (aCons (cn (.int 1)) (aNil)))) (aNil))) aNil) (aNil))) aNil) [13, 14, 15]) (aNil))) (.nm 7)) (sRet (dTup (aCons (vr 7) (aCons (dTup (aCons (dCall m_frac 2 0 (fun ds _ => ds ++ []) (aCons (vr 4) (aCons (vr 6) (aNil))) aNil) (aCons (dCall m_frac 2 0 (fun ds _ => ds ++ []) (aCons (vr 5) (aCons (vr 6) (aNil))) aNil) (aNil)))) (aNil))))))))) (sNx)) (sSeq (sStar (vr 0) 3 0 [.nm 8, .nm 9, .nm 10, .nm 11]) (sSeq (sAsg (dCall m_turned 2 0 (fun ds _ => ds) (aCons (dTwo (vr 11) (cn (.int 0)) fIx) (aCons (vr 1) (aNil))) aNil) (.nm 12)) (sRet (dTup (aCons (dB bTup (aCons (dLc (iZipD (vr 9) (vr 12)) (.tp (.nm 14 :: .nm 15 :: [])) (tYesD) (dCall m_plus 2 0 (fun ds _ => ds) (aCons (dTup (aCons (vr 14) (aCons (cn (.int 1)) (aNil)))) (aCons (dCall m_times 2 0 (fun ds _ => ds) (aCons (dTup (aCons (vr 10) (aCons (cn (.int 1)) (aNil)))) (aCons (vr 15) (aNil))) aNil) (aNil))) aNil) [13, 14, 15]) (aNil))) (aCons (vr 12) (aNil)))))))
def m_spoke_of : TFd := fnD 2 16 t_spoke_of
theorem e_spoke_of {a0 a1 : D} {S : Sto} {Q : DK} {E : EK} (k : t_spoke_of [some a0, some a1, none, none, none, none, none, none, none, none, none, none, none, none, none, none] S ⟨fun _ S1 => Q .non S1, Q, fun _ _ => False, fun _ _ => False, fun x _ S1 => E x S1⟩) : m_spoke_of [a0, a1] S Q E := ⟨rfl, k⟩
def t_is_whole : TSd := sRet (eIf (tbl (dIsi "int" (vr 0))) (vNot (dIsi "bool" (vr 0))) (cn (.bl false)))
def m_is_whole : TFd := fnD 1 1 t_is_whole
theorem e_is_whole {a0 : D} {S : Sto} {Q : DK} {E : EK} (k : t_is_whole [some a0] S ⟨fun _ S1 => Q .non S1, Q, fun _ _ => False, fun _ _ => False, fun x _ S1 => E x S1⟩) : m_is_whole [a0] S Q E := ⟨rfl, k⟩
def t_is_row : TSd := sRet (eIf (tbl (dIsi "tuple" (vr 0))) (dTwo (dB bLen (aCons (vr 0) (aNil))) (vr 1) fEq) (cn (.bl false)))
def m_is_row : TFd := fnD 2 2 t_is_row
theorem e_is_row {a0 a1 : D} {S : Sto} {Q : DK} {E : EK} (k : t_is_row [some a0, some a1] S ⟨fun _ S1 => Q .non S1, Q, fun _ _ => False, fun _ _ => False, fun x _ S1 => E x S1⟩) : m_is_row [a0, a1] S Q E := ⟨rfl, k⟩
def t_are_whole : TSd := sRet (eIf (tbl (dCall m_is_row 2 0 (fun ds _ => ds) (aCons (vr 0) (aCons (vr 1) (aNil))) aNil)) (dB bAll (aCons (dLc (iVal (vr 0)) (.nm 3) (tYesD) (dCall m_is_whole 1 0 (fun ds _ => ds) (aCons (vr 3) (aNil)) aNil) [2, 3]) (aNil))) (cn (.bl false)))
def m_are_whole : TFd := fnD 2 4 t_are_whole
theorem e_are_whole {a0 a1 : D} {S : Sto} {Q : DK} {E : EK} (k : t_are_whole [some a0, some a1, none, none] S ⟨fun _ S1 => Q .non S1, Q, fun _ _ => False, fun _ _ => False, fun x _ S1 => E x S1⟩) : m_are_whole [a0, a1] S Q E := ⟨rfl, k⟩
def t_is_fraction : TSd := sSeq (sIf (tOrD (tNotD (ttr (dCall m_are_whole 2 0 (fun ds _ => ds) (aCons (vr 0) (aCons (cn (.int 2)) (aNil))) aNil))) (tbl (dTwo (dTwo (vr 0) (cn (.int 1)) fIx) (cn (.int 1)) fLt))) (sRet (cn (.bl false))) (sNx)) (sSeq (sPar [1, 2] (aCons (dB bAbs (aCons (dTwo (vr 0) (cn (.int 0)) fIx) (aNil))) (aCons (dTwo (vr 0) (cn (.int 1)) fIx) (aNil)))) (sSeq (sWhile (tbl (dTwo (vr 2) (cn (.int 0)) fNe)) (sPar [1, 2] (aCons (vr 2) (aCons (dTwo (vr 1) (vr 2) fMod) (aNil))))) (sRet (dTwo (vr 1) (cn (.int 1)) fEq))))
def m_is_fraction : TFd := fnD 1 3 t_is_fraction
theorem e_is_fraction {a0 : D} {S : Sto} {Q : DK} {E : EK} (k : t_is_fraction [some a0, none, none] S ⟨fun _ S1 => Q .non S1, Q, fun _ _ => False, fun _ _ => False, fun x _ S1 => E x S1⟩) : m_is_fraction [a0] S Q E := ⟨rfl, k⟩
def t_l_direction : TSd := sSeq (sAsg (vr 0) (.tp (.nm 2 :: .nm 3 :: []))) (sSeq (sFor (iR1 (aCons (dTwo (dTwo (vr 1) (cn (.int 0)) fIx) (dTwo (vr 1) (cn (.int 1)) fIx) fDiv) (aNil))) (.nm 4) (sPar [2, 3] (aCons (dTwo (cn (.int 0)) (vr 3) fSub) (aCons (vr 2) (aNil))))) (sSeq (sAsg (dCall m_l_root_of 1 0 (fun ds _ => ds) (aCons (dTwo (dTwo (vr 2) (vr 2) fMul) (dTwo (vr 3) (vr 3) fMul) fAdd) (aNil)) aNil) (.nm 5)) (sSeq (sPar [6, 7] (aCons (dTwo (dTwo (vr 1) (cn (.int 0)) fIx) (dTwo (vr 1) (cn (.int 1)) fIx) fMod) (aCons (dTwo (vr 1) (cn (.int 1)) fIx) (aNil)))) (sSeq (sPar [8, 9] (aCons (dTwo (dTwo (vr 7) (vr 7) fMul) (dTwo (vr 6) (vr 6) fMul) fSub) (aCons (dTwo (dTwo (cn (.int 2)) (vr 6) fMul) (vr 7) fMul) (aNil)))) (sSeq (sAsg (dTwo (dTwo (dTwo (vr 7) (vr 7) fMul) (dTwo (vr 6) (vr 6) fMul) fAdd) (vr 5) fMul) (.nm 10)) (sRet (dTup (aCons (dCall m_l_low 2 0 (fun ds _ => ds) (aCons (dTwo (dTwo (vr 2) (vr 8) fMul) (dTwo (vr 3) (vr 9) fMul) fSub) (aCons (vr 10) (aNil))) aNil) (aCons (dCall m_l_low 2 0 (fun ds _ => ds) (aCons (dTwo (dTwo (vr 3) (vr 8) fMul) (dTwo (vr 2) (vr 9) fMul) fAdd) (aCons (vr 10) (aNil))) aNil) (aNil))))))))))
def m_l_direction : TFd := fnD 2 11 t_l_direction
theorem e_l_direction {a0 a1 : D} {S : Sto} {Q : DK} {E : EK} (k : t_l_direction [some a0, some a1, none, none, none, none, none, none, none, none, none] S ⟨fun _ S1 => Q .non S1, Q, fun _ _ => False, fun _ _ => False, fun x _ S1 => E x S1⟩) : m_l_direction [a0, a1] S Q E := ⟨rfl, k⟩
end Lb

local macro_rules | `(tactic| walk_at "blz") => `(tactic| (with_reducible (first | refine Go.zipS' ?_ | refine Go.zipR' ?_ | refine Go.seqT ?_ | refine Go.seqL ?_ | refine Go.zipST rfl ?_ | refine Go.zipSL rfl ?_ | refine Go.for_zc ?_ | refine Go.for_zn ?_ | refine Go.lg_zc ?_ | refine Go.lg_zn ?_)))
namespace Lb
open PySem PySem.Spec PyProof.Rows L2 Bl
/-! ### what is grown anew -/
def Up (S S' : Sto) : Prop := ∀ b, S b ≠ none → S' b = S b
theorem Up.refl (S : Sto) : Up S S := fun _ _ => rfl
theorem Up.trans {S S1 S2 : Sto} (h : Up S S1) (k : Up S1 S2) : Up S S2 := fun b hb => by rw [k b (by rw [h b hb]; exact hb), h b hb]
theorem Up.sup {S S1 : Sto} {a : Addr} {ds : List D} (h : Up S S1) (n : S a = none) : Up S (sup S1 a ds) := fun b hb => by
  rw [sup_ne (fun z => hb (by rw [z]; exact n))]
  exact h b hb
theorem Bg.up {S S1 : Sto} {a : Addr} (h : Bg S a) (u : Up S S1) : Bg S1 a := by
  obtain ⟨c, m, e, r⟩ := h
  exact ⟨c, m, by rw [u a (by rw [e]; simp)]; exact e, r⟩
/-! ### fractions of any two sizes -/
theorem plus_mn {a b : Rat} {m n : Nat} {S : Sto} {Q : DK} {E : EK} (ha : sr m a) (hb : sr n b) (hn : m + n + 1 ≤ 8900) (k : Q (fr (a + b)) S) : m_plus [fr a, fr b] S Q E := by
  refine e_plus ?_
  unfold t_plus
  walk_at "bl"
  refine Go.mul (ha.n.cmul hb.d (by omega)) ?_
  walk_at "bl"
  refine Go.mul (hb.n.cmul ha.d (by omega)) ?_
  walk_at "bl"
  refine Go.mul (ha.d.cmul hb.d (by omega)) ?_
  walk_at "bl"
  have e1 := num_den a
  have e2 := num_den b
  refine frac_spec (n := m + n + 1) (Int.mul_ne_zero (den_ne a) (den_ne b)) ((ha.n.mul hb.d).add ((hb.n.mul ha.d).mono (by omega))) ((ha.d.mul hb.d).mono (by omega)) (Nat.le_trans hn (by decide)) ?_ k
  simp only [Rat.intCast_mul, Rat.intCast_add]
  grind
theorem minus_mn {a b : Rat} {m n : Nat} {S : Sto} {Q : DK} {E : EK} (ha : sr m a) (hb : sr n b) (hn : m + n + 1 ≤ 8900) (k : Q (fr (a - b)) S) : m_minus [fr a, fr b] S Q E := by
  refine e_minus ?_
  unfold t_minus
  walk_at "bl"
  refine Go.mul (ha.n.cmul hb.d (by omega)) ?_
  walk_at "bl"
  refine Go.mul (hb.n.cmul ha.d (by omega)) ?_
  walk_at "bl"
  refine Go.mul (ha.d.cmul hb.d (by omega)) ?_
  walk_at "bl"
  have e1 := num_den a
  have e2 := num_den b
  refine frac_spec (n := m + n + 1) (Int.mul_ne_zero (den_ne a) (den_ne b)) ((ha.n.mul hb.d).sub ((hb.n.mul ha.d).mono (by omega))) ((ha.d.mul hb.d).mono (by omega)) (Nat.le_trans hn (by decide)) ?_ k
  simp only [Rat.intCast_mul, Rat.intCast_sub]
  grind
theorem times_mn {a b : Rat} {m n : Nat} {S : Sto} {Q : DK} {E : EK} (ha : sr m a) (hb : sr n b) (hn : m + n ≤ 8900) (k : Q (fr (a * b)) S) : m_times [fr a, fr b] S Q E := by
  refine e_times ?_
  unfold t_times
  walk_at "bl"
  refine Go.mul (ha.n.cmul hb.n (by omega)) ?_
  walk_at "bl"
  refine Go.mul (ha.d.cmul hb.d (by omega)) ?_
  walk_at "bl"
  have e1 := num_den a
  have e2 := num_den b
  refine frac_spec (n := m + n) (Int.mul_ne_zero (den_ne a) (den_ne b)) (ha.n.mul hb.n) (ha.d.mul hb.d) (Nat.le_trans hn (by decide)) ?_ k
  simp only [Rat.intCast_mul]
  grind
theorem num_ne {a : Rat} (h : a ≠ 0) : a.num ≠ 0 := fun z => h (Rat.num_eq_zero.mp z)
theorem over_mn {a b : Rat} {m n : Nat} {S : Sto} {Q : DK} {E : EK} (ha : sr m a) (hb : sr n b) (b0 : b ≠ 0) (hn : m + n ≤ 8900) (k : Q (fr (a / b)) S) : m_over [fr a, fr b] S Q E := by
  refine e_over ?_
  unfold t_over
  walk_at "bl"
  refine Go.mul (ha.n.cmul hb.d (by omega)) ?_
  walk_at "bl"
  refine Go.mul (ha.d.cmul hb.n (by omega)) ?_
  walk_at "bl"
  have e1 := num_den a
  have e2 := num_den b
  refine frac_spec (n := m + n) (Int.mul_ne_zero (den_ne a) (num_ne b0)) (ha.n.mul hb.d) (ha.d.mul hb.n) (Nat.le_trans hn (by decide)) ?_ k
  simp only [Rat.intCast_mul]
  rw [← e1, ← e2]
  have : a / b * b = a := Rat.div_mul_cancel b0
  grind
theorem less_mn {a b : Rat} {m n : Nat} {S : Sto} {Q : DK} {E : EK} (ha : sr m a) (hb : sr n b) (hn : m + n ≤ 8900) (k : Q (.bl (decide (a < b))) S) : m_is_less [fr a, fr b] S Q E := by
  refine e_is_less ?_
  unfold t_is_less
  walk_at "bl"
  refine Go.mul (ha.n.cmul hb.d (by omega)) ?_
  walk_at "bl"
  refine Go.mul (hb.n.cmul ha.d (by omega)) ?_
  walk_at "bl"
  have e : decide (a.num * (b.den : Int) < b.num * (a.den : Int)) = decide (a < b) := by
    rw [Bool.eq_iff_iff, decide_eq_true_eq, decide_eq_true_eq]
    exact (Rat.lt_iff a b).symm
  rw [e]
  exact k
theorem lplus_mn {a b : Rat} {m n : Nat} {S : Sto} {Q : DK} {E : EK} (ha : sr m a) (hb : sr n b) (hn : m + n + 1 ≤ 8900) (k : Q (fr (a + b)) S) : m_l_plus [fr a, fr b] S Q E := by
  refine e_l_plus ?_
  unfold t_l_plus
  walk_at "bl"
  refine Go.mul (ha.n.cmul hb.d (by omega)) ?_
  walk_at "bl"
  refine Go.mul (hb.n.cmul ha.d (by omega)) ?_
  walk_at "bl"
  refine Go.mul (ha.d.cmul hb.d (by omega)) ?_
  walk_at "bl"
  have e1 := num_den a
  have e2 := num_den b
  refine low_spec (n := m + n + 1) (Int.mul_ne_zero (den_ne a) (den_ne b)) ((ha.n.mul hb.d).add ((hb.n.mul ha.d).mono (by omega))) ((ha.d.mul hb.d).mono (by omega)) (Nat.le_trans hn (by decide)) ?_ k
  simp only [Rat.intCast_mul, Rat.intCast_add]
  grind
/-! ### how far round: quarters and the rest -/
def flq (s : Rat) : Nat := (s.num / (s.den : Int)).toNat
def frq (s : Rat) : Rat := ((s.num % (s.den : Int) : Int) : Rat) / ((s.den : Int) : Rat)
theorem frq_mul (s : Rat) : frq s * ((s.den : Int) : Rat) = ((s.num % (s.den : Int) : Int) : Rat) := rest_mul (den_ne s)
theorem den0 (s : Rat) : (0 : Int) < s.den := by have := s.den_pos; omega
theorem flq_eq {s : Rat} (h : 0 ≤ s) : (flq s : Int) = s.num / (s.den : Int) := by
  have : 0 ≤ s.num / (s.den : Int) := Int.ediv_nonneg (Rat.num_nonneg.mpr h) (by have := den0 s; omega)
  unfold flq
  omega
theorem fl_fr {s : Rat} (h : 0 ≤ s) : s = ((flq s : Int) : Rat) + frq s := by
  have e1 := frq_mul s
  have e2 := num_den s
  have e3 : s.num = (s.den : Int) * (flq s : Int) + s.num % (s.den : Int) := by rw [flq_eq h]; exact (Int.mul_ediv_add_emod s.num s.den).symm
  have e4 : (s.num : Rat) = ((s.den : Int) : Rat) * ((flq s : Int) : Rat) + ((s.num % (s.den : Int) : Int) : Rat) := by
    rw [← Rat.intCast_mul, ← Rat.intCast_add, ← e3]
  have d := castne (den_ne s)
  generalize ((s.den : Int) : Rat) = d at *
  generalize ((s.num % (s.den : Int) : Int) : Rat) = r at *
  generalize ((flq s : Int) : Rat) = f at *
  generalize frq s = t at *
  grind
theorem fr_nonneg (s : Rat) : 0 ≤ frq s := by
  unfold frq
  rw [Rat.div_def]
  exact Rat.mul_nonneg (Rat.intCast_nonneg.mpr (Int.emod_nonneg _ (den_ne s))) (Rat.le_of_lt (Rat.inv_pos.mpr (Rat.intCast_pos.mpr (den0 s))))
theorem fr_lt (s : Rat) : frq s < 1 := by
  have h1 := Int.emod_lt_of_pos s.num (den0 s)
  have e := frq_mul s
  have h2 : ((s.num % (s.den : Int) : Int) : Rat) < ((s.den : Int) : Rat) := Rat.intCast_lt_intCast.mpr h1
  have h3 : (0 : Rat) < ((s.den : Int) : Rat) := Rat.intCast_pos.mpr (den0 s)
  rw [← e] at h2
  generalize frq s = t at *
  generalize ((s.den : Int) : Rat) = d at *
  false_or_by_contra
  rename_i h
  have h4 : (1 : Rat) ≤ t := Rat.not_lt.mp h
  have h5 : 1 * d ≤ t * d := Rat.mul_le_mul_of_nonneg_right h4 (Rat.le_of_lt h3)
  rw [Rat.one_mul] at h5
  exact absurd h2 (Rat.not_lt.mpr h5)
theorem frq_sr {m : Nat} {s : Rat} (h : sr m s) : sr m (frq s) := by
  have h1 := Int.emod_lt_of_pos s.num (den0 s)
  have h0 := Int.emod_nonneg s.num (den_ne s)
  have hd := h.d
  obtain ⟨a, b⟩ := low_sm (n := m) (m := m) (den_ne s) (frq_mul s) (by unfold sm at *; omega) hd
  exact ⟨a, b⟩
/-- whole and rest are told by the sum -/
theorem flq_of {k : Nat} {t s : Rat} (e : s = ((k : Int) : Rat) + t) (h0 : 0 ≤ t) (h1 : t < 1) : flq s = k ∧ frq s = t := by
  have hs : 0 ≤ s := by
    rw [e]
    exact Rat.add_nonneg (Rat.intCast_nonneg.mpr (by omega)) h0
  have e2 := fl_fr hs
  have a0 := fr_nonneg s
  have a1 := fr_lt s
  have key : ((flq s : Int) : Rat) + frq s = ((k : Int) : Rat) + t := by rw [← e2, e]
  have hk : (flq s : Int) = (k : Int) := by
    rcases Int.lt_trichotomy (flq s : Int) (k : Int) with z | z | z
    · have : (((flq s : Int) + 1 : Int) : Rat) ≤ ((k : Int) : Rat) := Rat.intCast_le_intCast.mpr z
      rw [Rat.intCast_add] at this
      grind
    · exact z
    · have : (((k : Int) + 1 : Int) : Rat) ≤ ((flq s : Int) : Rat) := Rat.intCast_le_intCast.mpr z
      rw [Rat.intCast_add] at this
      grind
  refine ⟨by omega, ?_⟩
  rw [hk] at key
  grind
end Lb

namespace Lb
open PySem PySem.Spec PyProof.Rows L2 Bl
abbrev pl2 (p : Rat × Rat) : D := .tup [fr p.1, fr p.2]
/-- the direction of length one, s behind a direction -/
def dirU (v : P2) (s : Rat) : Rat × Rat :=
  ((((1 - frq s * frq s) * ((rot (flq s) v).1 : Int) + (frq s + frq s) * ((0 - (rot (flq s) v).2 : Int) : Rat)) / ((1 + frq s * frq s) * ((lenq v : Int) : Rat))),
   (((1 - frq s * frq s) * ((rot (flq s) v).2 : Int) + (frq s + frq s) * ((rot (flq s) v).1 : Int)) / ((1 + frq s * frq s) * ((lenq v : Int) : Rat))))
theorem sr_one : sr 1 (1 : Rat) := ⟨by show (1 : Int).natAbs < _; decide, by show (1 : Int).natAbs < _; decide⟩
theorem under_pos (t : Rat) : 0 < 1 + t * t := by
  have := sq_nonneg t
  grind
theorem under_ne {t : Rat} {v : P2} (h : v ≠ (0, 0)) : (1 + t * t) * ((lenq v : Int) : Rat) ≠ 0 := by
  have h1 := under_pos t
  have h2 : (0 : Rat) < ((lenq v : Int) : Rat) := Rat.intCast_pos.mpr (lenq_pos h)
  have := Rat.mul_pos h1 h2
  intro z
  rw [z] at this
  exact absurd this (by decide)
theorem sr_sub {m n : Nat} {a b : Rat} (ha : sr m a) (hb : sr n b) : sr (m + n + 1) (a - b) := by
  rw [Rat.sub_eq_add_neg]
  exact ha.add hb.neg
theorem fdiv_eq {s : Rat} (h : 0 ≤ s) : s.num.fdiv (s.den : Int) = flq s := by
  rw [Int.fdiv_eq_ediv_of_nonneg _ (by omega), flq_eq h]
theorem fmod_eq (s : Rat) : s.num.fmod (s.den : Int) = s.num % (s.den : Int) := Int.fmod_eq_emod_of_nonneg _ (by omega)
theorem turned_spec' {v : P2} {n m : Nat} {s : Rat} {S : Sto} {Q : DK} {E : EK} (hv : DirOk n v) (hn : n ≤ 12) (hs : sr m s) (s0 : 0 ≤ s) (s9 : flq s < 1000) (hm : m ≤ 500) (k : ∀ S', Up S S' → Q (pl2 (dirU v s)) S') : m_turned [pt v, fr s] S Q E := by
  refine e_turned ?_
  unfold t_turned
  have hd : CDiv' (s.den : Int) := hs.d.cdiv (den_ne s) (by omega)
  walk_at "bl"
  refine Go.div hd ?_
  walk_at "bl"
  refine Go.r1' (fdiv_eq s0) (by omega) ?_
  refine forD_rng (fun j e s' => ∃ o, e = [some (pt v), some (fr s), some (pt (rot j v)), o, none, none, none, none, none, none, none, none, none, none] ∧ s' = S) ⟨_, rfl, rfl⟩ ?_ ?_
  · rintro j e s' hj ⟨o, rfl, rfl⟩
    refine ⟨_, rfl, fun N' hnx _ _ _ _ => ?_⟩
    show sAsg _ _ [some (pt v), some (fr s), some (pt (rot j v)), some (.int (0 + j)), none, none, none, none, none, none, none, none, none, none] _ _
    walk_at "bl"
    refine left_spec (n := n) ?_
    walk_at "bl"
    exact hnx _ _ ⟨_, rfl, rfl⟩
  · rintro e s' ⟨o, rfl, rfl⟩
    obtain ⟨r1, r2⟩ := rot_sm hv.s1 hv.s2 (flq s)
    have st := frq_sr hs
    have q2 := st.mul st
    have sl := lenq_sm hv.s1 hv.s2
    walk_at "bl"
    refine Go.mod (den_ne s) ?_
    walk_at "bl"
    rw [fmod_eq]
    refine frac_spec (n := m) (r := frq s) (den_ne s) (by have h1 := Int.emod_lt_of_pos s.num (den0 s); have h0 := Int.emod_nonneg s.num (den_ne s); have hd := hs.d; unfold sm at *; omega) hs.d (by omega) (frq_mul s) ?_
    walk_at "bl"
    refine length_spec r1 r2 (by omega) ?_
    rw [lenq_rot]
    walk_at "bl"
    refine times_mn st st (by omega) ?_
    walk_at "bl"
    refine minus_mn (a := 1) (m := 1) (n := m + m) sr_one q2 (by omega) ?_
    walk_at "bl"
    refine plus_mn st st (by omega) ?_
    walk_at "bl"
    refine plus_mn (a := 1) (m := 1) (n := m + m) sr_one q2 (by omega) ?_
    walk_at "bl"
    have s1 := sr_sub sr_one q2
    have s2 := st.add st
    have s3 := sr_one.add q2
    have i1 : ∀ {x : Int}, sm n x → sr (n + 1) ((x : Int) : Rat) := fun h => sr.int (h.mono (by omega)) (by omega)
    have i2 : sr (n + n + 2) ((lenq v : Int) : Rat) := sr.int (sl.mono (by omega)) (by omega)
    refine Go.lstRK' rfl fun c hc => ?_
    walk_at "bl"
    refine left_spec (n := n) ?_
    walk_at "bl"
    have t1 := s1.mul (i1 r1)
    have t2 := s2.mul (i1 (show sm n (0 - (rot (flq s) v).2) by unfold sm at *; omega))
    have t3 := s1.mul (i1 r2)
    have t4 := s2.mul (i1 r1)
    have u1 := s3.mul i2
    refine times_mn (b := ((rot (flq s) v).1 : Int)) s1 (i1 r1) (by omega) ?_
    walk_at "bl"
    refine times_mn (b := ((0 - (rot (flq s) v).2 : Int) : Rat)) s2 (i1 (by unfold sm at *; omega)) (by omega) ?_
    walk_at "bl"
    refine plus_mn t1 t2 (by omega) ?_
    walk_at "bl"
    refine Go.appG rfl sup_same ?_
    walk_at "bl"
    refine times_mn (b := ((lenq v : Int) : Rat)) s3 i2 (by omega) ?_
    walk_at "bl"
    refine over_mn (t1.add t2) u1 (under_ne hv.ne) (by omega) ?_
    walk_at "bl"
    refine Go.appK sup_same (by decide) ?_
    walk_at "bl"
    refine times_mn (b := ((rot (flq s) v).2 : Int)) s1 (i1 r2) (by omega) ?_
    walk_at "bl"
    refine times_mn (b := ((rot (flq s) v).1 : Int)) s2 (i1 r1) (by omega) ?_
    walk_at "bl"
    refine plus_mn t3 t4 (by omega) ?_
    walk_at "bl"
    refine Go.appG rfl sup_same ?_
    walk_at "bl"
    refine times_mn (b := ((lenq v : Int) : Rat)) s3 i2 (by omega) ?_
    walk_at "bl"
    refine over_mn (t3.add t4) u1 (under_ne hv.ne) (by omega) ?_
    walk_at "bl"
    refine Go.appK sup_same (by simp) ?_
    walk_at "bl"
    refine Go.ixR sup_same (atI_nat (j := 0) rfl) ?_
    walk_at "bl"
    refine Go.ixR sup_same (atI_nat (j := 1) rfl) ?_
    walk_at "bl"
    exact k _ ((((Up.refl _).sup hc).sup hc).sup hc)
/-- .. its size -/
theorem dirU_sr {v : P2} {n m : Nat} {s : Rat} (hv : DirOk n v) (hs : sr m s) : sr (2 * m + 2 * n + 3) (dirU v s).1 ∧ sr (2 * m + 2 * n + 3) (dirU v s).2 := by
  obtain ⟨r1, r2⟩ := rot_sm hv.s1 hv.s2 (flq s)
  have st := frq_sr hs
  have e := num_den (frq s)
  have sl := lenq_sm hv.s1 hv.s2
  have l0 := lenq_pos hv.ne
  generalize hp : (frq s).num = p at *
  generalize hq : ((frq s).den : Int) = q at *
  have q0 : q ≠ 0 := by rw [← hq]; exact den_ne _
  have sp : sm m p := by rw [← hp]; exact st.n
  have sq : sm m q := by rw [← hq]; exact st.d
  have qr := castne q0
  have pq : (p : Rat) = frq s * q := e.symm
  have un := under_ne (t := frq s) hv.ne
  have den : (q * q + p * p) * lenq v ≠ 0 := by
    have h1 : 0 < q * q := by
      rcases Int.lt_or_gt_of_ne q0 with z | z
      · exact Int.mul_pos_of_neg_of_neg z z
      · exact Int.mul_pos z z
    have h2 : 0 ≤ p * p := by
      rcases Int.le_total 0 p with z | z
      · exact Int.mul_nonneg z z
      · exact Int.mul_nonneg_of_nonpos_of_nonpos z z
    have := Int.mul_pos (show 0 < q * q + p * p by omega) l0
    omega
  have sd : sm (2 * m + 2 * n + 3) ((q * q + p * p) * lenq v) := (((sq.mul sq).add (sp.mul sp)).mul sl).mono (by omega)
  have main : ∀ {x y : Int} {r : Rat}, sm n x → sm n y → r = (((1 - frq s * frq s) * (x : Rat) + (frq s + frq s) * (y : Rat)) / ((1 + frq s * frq s) * ((lenq v : Int) : Rat))) → sr (2 * m + 2 * n + 3) r := by
    intro x y r hx hy er
    have er2 : r * ((1 + frq s * frq s) * ((lenq v : Int) : Rat)) = (1 - frq s * frq s) * (x : Rat) + (frq s + frq s) * (y : Rat) := by rw [er]; exact Rat.div_mul_cancel un
    have key : r * (((q * q + p * p) * lenq v : Int) : Rat) = (((q * q - p * p) * x + (2 * (p * q)) * y : Int) : Rat) := by
      simp only [Rat.intCast_mul, Rat.intCast_add, Rat.intCast_sub, Rat.intCast_ofNat]
      rw [pq]
      generalize frq s = t at *
      generalize (q : Rat) = Q at *
      generalize ((lenq v : Int) : Rat) = L at *
      generalize (x : Rat) = X at *
      generalize (y : Rat) = Y at *
      grind
    have f1 : sm (m + m + 1 + n) ((q * q - p * p) * x) := ((sq.mul sq).sub (sp.mul sp)).mul hx
    have f2 : sm (m + m + 2 + n) ((2 * (p * q)) * y) := (((sm.of (n := 2) (show (2 : Int).natAbs < 2 ^ 2 by decide)).mul (sp.mul sq)).mul hy).mono (by omega)
    have f3 := (f1.mono (show _ ≤ m + m + 2 + n by omega)).add f2
    obtain ⟨a, b⟩ := low_sm (n := 2 * m + 2 * n + 3) (m := 2 * m + 2 * n + 3) den key (f3.mono (by omega)) sd
    exact ⟨a, b⟩
  exact ⟨main r1 (by unfold sm at *; omega) rfl, main r2 r1 rfl⟩
end Lb

namespace Lb
open PySem PySem.Spec PyProof.Rows L2 Bl
/-! ### where faces begin -/
def marksL (r : Rat) : List Fc → List Rat
  | [] => []
  | f :: fs => r :: marksL (r + lenR f) fs
theorem beginnings_spec {t : Th} {S : Sto} {Q : DK} {E : EK} (ht : GoodTh t) (k : ∀ S', Up S S' → Q (.lst ((marksL 0 (facesL t)).map fr)) S') : m_beginnings [thD t] S Q E := by
  refine e_beginnings ?_
  unfold t_beginnings
  walk_at "bl"
  refine Go.lstRK' rfl fun c hc => ?_
  walk_at "bl"
  refine faces_spec ht ?_
  unfold fcsD
  walk_at "bl"
  have hl : (facesL t).length ≤ 4 := by cases t <;> simp [facesL]
  refine forD_map (fun xs e s => ∃ (r : Rat) (ms : List D) (o : Option D), e = [some (thD t), some (.ref c), o] ∧ Up S s ∧ s c = some (ms ++ [fr r]) ∧ ms ++ (marksL r xs).map fr = (marksL 0 (facesL t)).map fr ∧ sr (57 * (4 - xs.length) + 1) r ∧ xs.length ≤ 4 ∧ ms.length ≤ 4 - xs.length ∧ ∀ f ∈ xs, FcGood 12 f) ?_ ?_ (facesL t) ⟨0, [], none, rfl, (Up.refl S).sup hc, sup_same, rfl, sr.zero (m := 57 * (4 - (facesL t).length)), hl, Nat.zero_le _, faces_good ht⟩
  · rintro f xs e s ⟨r, ms, o, rfl, u, sc, hm, hr, hx, hms, hf⟩
    refine ⟨_, rfl, fun N' hnx _ _ _ _ => ?_⟩
    show sDrop _ [some (thD t), some (.ref c), some (fcD f)] _ _
    walk_at "bl"
    refine Go.appG rfl sc ?_
    walk_at "bl"
    refine Go.ixR sc Go.atI_last ?_
    walk_at "bl"
    have hf0 := hf f (List.mem_cons_self ..)
    refine face_length_spec hf0 (by decide) ?_
    walk_at "bl"
    have h1 := lenR_sr hf0
    rw [List.length_cons] at hr hx hms
    refine plus_mn hr h1 (by omega) ?_
    walk_at "bl"
    refine Go.appK sc (by rw [List.length_append, List.length_singleton]; omega) ?_
    walk_at "bl"
    refine hnx _ _ ⟨r + lenR f, ms ++ [fr r], _, rfl, u.sup hc, sup_same, ?_, (hr.add h1).mono ?_, by omega, by rw [List.length_append, List.length_singleton]; omega, fun f' hf' => hf f' (List.mem_cons_of_mem _ hf')⟩
    · rw [← hm]
      show (ms ++ [fr r]) ++ _ = ms ++ (fr r :: _)
      rw [List.append_assoc]
      rfl
    · omega
  · rintro e s ⟨r, ms, o, rfl, u, sc, hm, hr, hx, hms, hf⟩
    walk_at "bl"
    refine Go.slR sc Go.cut_last ?_
    walk_at "bl"
    have e : ms = (marksL 0 (facesL t)).map fr := by rw [← hm]; simp [marksL]
    rw [e]
    exact k s u
/-! ### spokes of faces -/
def unitR (v : P2) : Rat × Rat := (((v.1 : Int) : Rat) / ((lenq v : Int) : Rat), ((v.2 : Int) : Rat) / ((lenq v : Int) : Rat))
def spokeR : Fc → Rat → (Rat × Rat) × (Rat × Rat)
  | .side a b, s => ((((a.1 : Int) : Rat) + s * ((b.1 - a.1 : Int) : Rat), ((a.2 : Int) : Rat) + s * ((b.2 - a.2 : Int) : Rat)), unitR (outw a b))
  | .round c r f _, s => ((((c.1 : Int) : Rat) + ((r : Int) : Rat) * (dirU f s).1, ((c.2 : Int) : Rat) + ((r : Int) : Rat) * (dirU f s).2), dirU f s)
abbrev spD (x : (Rat × Rat) × (Rat × Rat)) : D := .tup [pl2 x.1, pl2 x.2]
theorem spoke_of_spec {f : Fc} {s : Rat} {m : Nat} {S : Sto} {Q : DK} {E : EK} (hf : FcGood 12 f) (hs : sr m s) (s0 : 0 ≤ s) (s9 : flq s < 1000) (hm : m ≤ 500) (k : ∀ S', Up S S' → Q (spD (spokeR f s)) S') : m_spoke_of [fcD f, fr s] S Q E := by
  refine e_spoke_of ?_
  unfold t_spoke_of
  have i1 : ∀ {x : Int} {n : Nat}, sm n x → sr (n + 1) ((x : Int) : Rat) := fun h => sr.int (h.mono (by omega)) (by omega)
  have bd : ∀ {x : Int}, x.natAbs ≤ 1000 → sm 10 x := fun h => by unfold sm; omega
  cases f with
  | side a b =>
    obtain ⟨hne, ha, hb, w⟩ := hf
    have o := outw_ok hne ha hb w
    unfold fcD
    walk_at "bl"
    refine outward_spec hne ha hb ?_
    walk_at "bl"
    refine length_spec (v := outw a b) o.s1 o.s2 (by decide) ?_
    walk_at "bl"
    have d1 : sm 11 (b.1 - a.1) := by have := ha.1; have := hb.1; unfold sm; omega
    have d2 : sm 11 (b.2 - a.2) := by have := ha.2; have := hb.2; unfold sm; omega
    have m1 := hs.mul (i1 d1)
    have m2 := hs.mul (i1 d2)
    refine times_mn (b := ((b.1 - a.1 : Int) : Rat)) hs (i1 d1) (by omega) ?_
    walk_at "bl"
    refine plus_mn (a := ((a.1 : Int) : Rat)) (i1 (bd ha.1)) m1 (by omega) ?_
    walk_at "bl"
    refine times_mn (b := ((b.2 - a.2 : Int) : Rat)) hs (i1 d2) (by omega) ?_
    walk_at "bl"
    refine plus_mn (a := ((a.2 : Int) : Rat)) (i1 (bd ha.2)) m2 (by omega) ?_
    walk_at "bl"
    have l0 := lenq_pos o.ne
    have sl := lenq_sm o.s1 o.s2
    refine frac_spec (n := 25) (r := (unitR (outw a b)).1) (by omega) (o.s1.mono (by decide)) sl (by decide) (Rat.div_mul_cancel (castne (by omega))) ?_
    walk_at "bl"
    refine frac_spec (n := 25) (r := (unitR (outw a b)).2) (by omega) (o.s2.mono (by decide)) sl (by decide) (Rat.div_mul_cancel (castne (by omega))) ?_
    walk_at "bl"
    exact k S (Up.refl S)
  | round c r f l =>
    obtain ⟨hf, hl, hc, r0, sr5⟩ := hf
    unfold fcD
    walk_at "bl"
    refine turned_spec' hf (by decide) hs s0 s9 hm fun S1 u1 => ?_
    obtain ⟨d1, d2⟩ := dirU_sr hf hs
    walk_at "bl"
    have m1 := (i1 sr5).mul d1
    have m2 := (i1 sr5).mul d2
    refine times_mn (a := ((r : Int) : Rat)) (i1 sr5) d1 (by omega) ?_
    walk_at "bl"
    refine plus_mn (a := ((c.1 : Int) : Rat)) (i1 (bd hc.1)) m1 (by omega) ?_
    walk_at "bl"
    refine times_mn (a := ((r : Int) : Rat)) (i1 sr5) d2 (by omega) ?_
    walk_at "bl"
    refine plus_mn (a := ((c.2 : Int) : Rat)) (i1 (bd hc.2)) m2 (by omega) ?_
    walk_at "bl"
    exact k S1 u1
/-! ### what is a spoke -/
theorem is_whole_int {i : Int} {S : Sto} {Q : DK} {E : EK} (k : Q (.bl true) S) : m_is_whole [.int i] S Q E := by
  refine e_is_whole ?_
  unfold t_is_whole
  walk_at "bl"
  refine Go.isiK' (isi_int _) ?_
  walk_at "bl"
  refine Go.isiK' (isi_int_b _) ?_
  walk_at "bl"
  exact k
theorem are_whole_pr {a b : Int} {S : Sto} {Q : DK} {E : EK} (k : Q (.bl true) S) : m_are_whole [pr a b, .int 2] S Q E := by
  refine e_are_whole ?_
  unfold t_are_whole
  walk_at "bl"
  refine e_is_row ?_
  unfold t_is_row
  walk_at "bl"
  refine Go.isiK' (isi_tup _) ?_
  walk_at "bl"
  refine Go.ifDT rfl ?_
  walk_at "bl"
  refine is_whole_int ?_
  walk_at "bl"
  refine is_whole_int ?_
  walk_at "bl"
  exact k
theorem gcd_loop {a b : Int} {n : Nat} {S : Sto} {N : Nd} {d : D} (hb : 0 < b) (ha : sm n a) (hb' : sm n b) (k : N.rt (.bl (decide (Int.gcd a b = 1))) S) :
    sSeq (sWhile (tbl (dTwo (vr 2) (cn (.int 0)) fNe)) (sPar [1, 2] (aCons (vr 2) (aCons (dTwo (vr 1) (vr 2) fMod) (aNil))))) (sRet (dTwo (vr 1) (cn (.int 1)) fEq))
      [some d, some (.int (if a < 0 then -a else a)), some (.int b)] S N := by
  walk_at "bl"
  refine Go.while' (fun m e s => ∃ x y : Int, e = [some d, some (.int x), some (.int y)] ∧ s = S ∧ 0 ≤ x ∧ 0 ≤ y ∧ sm n x ∧ sm n y ∧ Int.gcd x y = Int.gcd a b ∧ m = y.toNat) _ ⟨_, _, rfl, rfl, by split <;> omega, by omega, ha.abs, hb', ?_, rfl⟩ ?_
  · split
    · rw [Int.neg_gcd]
    · rfl
  · rintro m e s ⟨x, y, rfl, rfl, hx, hy, sx, sy, hg, rfl⟩
    walk_at "bl"
    refine Go.ifD (fun h => ?_) fun h => ?_
    · subst h
      walk_at "bl"
      rw [Int.gcd_zero_right] at hg
      have ex : x = (Int.gcd a b : Int) := by omega
      have e : decide (x = 1) = decide (Int.gcd a b = 1) := by
        rw [Bool.eq_iff_iff, decide_eq_true_eq, decide_eq_true_eq, ex]
        omega
      rw [e]
      exact k
    · walk_at "bl"
      refine Go.mod h ?_
      walk_at "bl"
      obtain ⟨g1, g2, g3⟩ := gcd_step (show 0 < y by omega) hx
      exact ⟨(x.fmod y).toNat, by omega, y, _, rfl, rfl, hy, g1, sy, by unfold sm at *; omega, by rw [Int.gcd_comm, g3, Int.gcd_comm]; exact hg, rfl⟩
theorem is_fraction_fr {r : Rat} {n : Nat} {S : Sto} {Q : DK} {E : EK} (h : sr n r) (k : Q (.bl true) S) : m_is_fraction [fr r] S Q E := by
  refine e_is_fraction ?_
  unfold t_is_fraction
  walk_at "bl"
  refine are_whole_pr ?_
  walk_at "bl"
  refine Go.ifDF (by have := den0 r; omega) ?_
  walk_at "bl"
  refine gcd_loop (d := fr r) (n := n) (den0 r) h.n h.d ?_
  have e : Int.gcd r.num (r.den : Int) = 1 := r.reduced
  rw [decide_eq_true e]
  exact k
theorem aroundR_sr' {t : Th} (h : GoodTh t) : sr 229 (aroundR t) := by
  have go : ∀ (xs : List Fc) (r : Rat) (n : Nat), sr n r → (∀ f ∈ xs, FcGood 12 f) → sr (n + 57 * xs.length) (sumR r xs) := by
    intro xs
    induction xs with
    | nil => intro r n h _; exact h.mono (by simp)
    | cons f fs ih =>
      intro r n hr hf
      have := ih (r + lenR f) (n + 55 + 1) (hr.add (lenR_sr (hf f (List.mem_cons_self ..)))) fun g hg => hf g (List.mem_cons_of_mem _ hg)
      exact this.mono (by rw [List.length_cons]; omega)
  have hl : (facesL t).length ≤ 4 := by cases t <;> simp [facesL]
  exact (go (facesL t) 0 1 sr.zero (faces_good h)).mono (by omega)
/-! ### which face's spoke -/
def pairsL (r : Rat) : List Fc → List (Rat × Fc)
  | [] => []
  | f :: fs => (r, f) :: pairsL (r + lenR f) fs
def pickD (z : Rat) : List (Rat × Fc) → Option (Rat × Fc)
  | [] => none
  | p :: ps => if z < p.1 then pickD z ps else some p
def pickA (z : Rat) (r : Rat) : List Fc → Option (Rat × Fc)
  | [] => none
  | f :: fs => if z ≤ r + lenR f then some (r, f) else pickA z (r + lenR f) fs
def prD (p : Rat × Fc) : D := .tup [fr p.1, fcD p.2]
theorem zip_pairs : ∀ (fs : List Fc) (r : Rat), zipD ((marksL r fs).map fr) (fs.map fcD) = (pairsL r fs).map prD
  | [], _ => rfl
  | f :: fs, r => by
    show D.tup [fr r, fcD f] :: zipD ((marksL (r + lenR f) fs).map fr) (fs.map fcD) = prD (r, f) :: (pairsL (r + lenR f) fs).map prD
    rw [zip_pairs fs]
    rfl
theorem marks_len : ∀ (fs : List Fc) (r : Rat), (marksL r fs).length = fs.length
  | [], _ => rfl
  | f :: fs, r => by
    show (marksL (r + lenR f) fs).length + 1 = fs.length + 1
    rw [marks_len fs]
theorem zip_rev (xs ys : List D) (h : xs.length = ys.length) : zipD xs.reverse ys.reverse = (zipD xs ys).reverse := by
  unfold zipD
  exact (List.reverse_zipWith h).symm
theorem pairs_good {fs : List Fc} (h : ∀ f ∈ fs, FcGood 12 f) : ∀ (r : Rat) (n : Nat), sr n r → fs.length ≤ 4 → ∀ p ∈ pairsL r fs, FcGood 12 p.2 ∧ sr (n + 57 * (fs.length - 1)) p.1 := by
  induction fs with
  | nil => intro r n _ _ p hp; cases hp
  | cons f fs ih =>
    intro r n hr hl p hp
    rw [List.length_cons] at hl ⊢
    rcases List.mem_cons.mp hp with z | z
    · rw [z]
      exact ⟨h f (List.mem_cons_self ..), hr.mono (by omega)⟩
    · have hf := h f (List.mem_cons_self ..)
      obtain ⟨a, b⟩ := ih (fun g hg => h g (List.mem_cons_of_mem _ hg)) (r + lenR f) (n + 56) ((hr.add (lenR_sr hf)).mono (by omega)) (by omega) p z
      have : 0 < fs.length := by
        cases fs with
        | nil => cases z
        | cons _ _ => simp
      exact ⟨a, b.mono (by omega)⟩
theorem flq_le {s : Rat} (h : s ≤ 100) (h0 : 0 ≤ s) : flq s < 1000 := by
  have e := fl_fr h0
  have f0 := fr_nonneg s
  have : ((flq s : Int) : Rat) ≤ ((100 : Int) : Rat) := by
    rw [show ((100 : Int) : Rat) = 100 from rfl]
    grind
  have := Rat.intCast_le_intCast.mp this
  omega
end Lb

namespace Lb
open PySem PySem.Spec PyProof.Rows L2 Bl
/-! ### the law's spokes -/
theorem isq_lenq (v : P2) : ((isq (v.1 * v.1 + v.2 * v.2).toNat : Nat) : Int) = lenq v := rfl
theorem ldir_spec {v : P2} {m : Nat} {s : Rat} {S : Sto} {Q : DK} {E : EK} (hv : DirOk 12 v) (hs : sr m s) (s0 : 0 ≤ s) (s9 : flq s < 1000) (hm : m ≤ 500) (k : Q (pl2 (dirU v s)) S) : m_l_direction [pt v, fr s] S Q E := by
  refine e_l_direction ?_
  unfold t_l_direction
  have hd : CDiv' (s.den : Int) := hs.d.cdiv (den_ne s) (by omega)
  walk_at "bl"
  refine Go.div hd ?_
  walk_at "bl"
  refine Go.r1' (fdiv_eq s0) (by omega) ?_
  refine forD_rng (fun j e s' => ∃ o, e = [some (pt v), some (fr s), some (.int (rot j v).1), some (.int (rot j v).2), o, none, none, none, none, none, none] ∧ s' = S) ⟨_, rfl, rfl⟩ ?_ ?_
  · rintro j e s' hj ⟨o, rfl, rfl⟩
    refine ⟨_, rfl, fun N' hnx _ _ _ _ => ?_⟩
    show sPar _ _ [some (pt v), some (fr s), some (.int (rot j v).1), some (.int (rot j v).2), some (.int (0 + j)), none, none, none, none, none, none] _ _
    walk_at "bl"
    exact hnx _ _ ⟨_, rfl, rfl⟩
  · rintro e s' ⟨o, rfl, rfl⟩
    obtain ⟨r1, r2⟩ := rot_sm hv.s1 hv.s2 (flq s)
    have sl := lenq_sm hv.s1 hv.s2
    have l0 := lenq_pos hv.ne
    walk_at "bl"
    refine Go.mul (r1.cmul r1 (by decide)) ?_
    walk_at "bl"
    refine Go.mul (r2.cmul r2 (by decide)) ?_
    walk_at "bl"
    refine root_of_spec (dot_nonneg (rot (flq s) v)) (sm_dot r1 r2 r1 r2) (by decide) ?_
    rw [show ((isq ((rot (flq s) v).1 * (rot (flq s) v).1 + (rot (flq s) v).2 * (rot (flq s) v).2).toNat : Nat) : Int) = lenq v from (isq_lenq _).trans (lenq_rot v _)]
    walk_at "bl"
    refine Go.mod (den_ne s) ?_
    walk_at "bl"
    rw [fmod_eq]
    have h1 := Int.emod_lt_of_pos s.num (den0 s)
    have h0 := Int.emod_nonneg s.num (den_ne s)
    have e := frq_mul s
    have sq := hs.d
    have q0 := den_ne s
    generalize hp : s.num % (s.den : Int) = p at *
    generalize hq : (s.den : Int) = q at *
    have sp : sm m p := by unfold sm at *; omega
    have qr := castne q0
    have un := under_ne (t := frq s) hv.ne
    have qq : 0 < q * q := by
      rcases Int.lt_or_gt_of_ne q0 with z | z
      · exact Int.mul_pos_of_neg_of_neg z z
      · exact Int.mul_pos z z
    have pp : 0 ≤ p * p := Int.mul_nonneg h0 h0
    have den : (q * q + p * p) * lenq v ≠ 0 := by
      have := Int.mul_pos (show 0 < q * q + p * p by omega) l0
      omega
    have sd : sm (m + m + 26) ((q * q + p * p) * lenq v) := (((sq.mul sq).add (sp.mul sp)).mul sl).mono (by omega)
    have sa := (sq.mul sq).sub (sp.mul sp)
    have s2p := (sm.of (n := 2) (show (2 : Int).natAbs < 2 ^ 2 by decide)).mul sp
    have sb := s2p.mul sq
    refine Go.mul (sq.cmul sq (by omega)) ?_
    walk_at "bl"
    refine Go.mul (sp.cmul sp (by omega)) ?_
    walk_at "bl"
    refine Go.mul ((sm.of (n := 2) (show (2 : Int).natAbs < 2 ^ 2 by decide)).cmul sp (by omega)) ?_
    walk_at "bl"
    refine Go.mul (s2p.cmul sq (by omega)) ?_
    walk_at "bl"
    refine Go.mul (sq.cmul sq (by omega)) ?_
    walk_at "bl"
    refine Go.mul (sp.cmul sp (by omega)) ?_
    walk_at "bl"
    refine Go.mul (((sq.mul sq).add (sp.mul sp)).cmul sl (by omega)) ?_
    walk_at "bl"
    refine Go.mul (r1.cmul sa (by omega)) ?_
    walk_at "bl"
    refine Go.mul (r2.cmul sb (by omega)) ?_
    walk_at "bl"
    have pq : (p : Rat) = frq s * q := e.symm
    have main : ∀ {x y w : Int} {r : Rat}, w = 0 - y → r = (((1 - frq s * frq s) * (x : Rat) + (frq s + frq s) * (w : Rat)) / ((1 + frq s * frq s) * ((lenq v : Int) : Rat))) → r * (((q * q + p * p) * lenq v : Int) : Rat) = ((x * (q * q - p * p) - y * (2 * p * q) : Int) : Rat) := by
      intro x y w r hw er
      have er2 : r * ((1 + frq s * frq s) * ((lenq v : Int) : Rat)) = (1 - frq s * frq s) * (x : Rat) + (frq s + frq s) * (w : Rat) := by rw [er]; exact Rat.div_mul_cancel un
      have hw2 : (w : Rat) = - (y : Rat) := by rw [hw, Rat.intCast_sub]; grind
      simp only [Rat.intCast_mul, Rat.intCast_add, Rat.intCast_sub, Rat.intCast_ofNat]
      rw [pq]
      rw [hw2] at er2
      generalize frq s = t at *
      generalize (q : Rat) = Q at *
      generalize ((lenq v : Int) : Rat) = L at *
      generalize (x : Rat) = X at *
      generalize (y : Rat) = Y at *
      grind
    have n1 : sm (m + m + 26) ((rot (flq s) v).1 * (q * q - p * p) - (rot (flq s) v).2 * (2 * p * q)) := ((r1.mul sa).mono (show _ ≤ m + m + 14 by omega)).sub ((r2.mul sb).mono (show _ ≤ m + m + 14 by omega)) |>.mono (by omega)
    refine low_spec (n := m + m + 26) (r := (dirU v s).1) den n1 sd (by omega) (main (w := 0 - (rot (flq s) v).2) rfl rfl) ?_
    walk_at "bl"
    refine Go.mul (r2.cmul sa (by omega)) ?_
    walk_at "bl"
    refine Go.mul (r1.cmul sb (by omega)) ?_
    walk_at "bl"
    have n2 : sm (m + m + 26) ((rot (flq s) v).2 * (q * q - p * p) + (rot (flq s) v).1 * (2 * p * q)) := ((r2.mul sa).mono (show _ ≤ m + m + 14 by omega)).add ((r1.mul sb).mono (show _ ≤ m + m + 14 by omega)) |>.mono (by omega)
    refine low_spec (n := m + m + 26) (r := (dirU v s).2) den n2 sd (by omega) ?_ ?_
    · have := main (x := (rot (flq s) v).2) (y := 0 - (rot (flq s) v).1) (w := (rot (flq s) v).1) (r := (dirU v s).2) (by omega) rfl
      rw [this]
      congr 1
      grind
    · walk_at "bl"
      exact k
theorem frq_zero : frq 0 = 0 := by decide +kernel
theorem flq_zero : flq 0 = 0 := by decide +kernel
theorem dirU_zero (v : P2) : dirU v 0 = unitR v := by
  unfold dirU unitR
  rw [frq_zero, flq_zero]
  have e1 : ∀ x : Rat, (1 - 0 * 0) * x = x := fun x => by grind
  have e2 : ∀ x : Rat, (1 + 0 * 0) * x = x := fun x => by grind
  have e3 : ∀ x y : Rat, x + (0 + 0) * y = x := fun x y => by grind
  rw [e1, e1, e2, e3, e3]
  rfl
end Lb

namespace Lb
open PySem PySem.Spec PyProof.Rows L2 Bl
/-! ### both ways to a spoke tell the same (plain) -/
theorem crs_self (v : P2) : crs v v = 0 := by unfold crs; grind
theorem qk_crs {n : Nat} {f l : P2} (hf : DirOk n f) (hl : DirOk n l) : 0 ≤ crs (rot (qk f l) f) l := by
  by_cases h : f = l
  · have e : qk f l = 4 := if_pos h
    rw [e, rot4, h, crs_self]
    decide
  · exact (qk_cnd hf.ne hl.ne h).1.1
/-- c, d: the sine and the cosine by both lengths -/
theorem rest_bounds {n : Nat} {f l : P2} (hf : DirOk n f) (hl : DirOk n l) : 0 ≤ restR (rot (qk f l) f) l ∧ restR (rot (qk f l) f) l < 1 := by
  have hp := rest_pos hf hl
  have hc := qk_crs hf hl
  have hd := qk_dot hf hl
  have lg := lagrange (rot (qk f l) f) l
  rw [← lenq_sq (hf.rot (qk f l)), ← lenq_sq hl] at lg
  have a0 := lenq_pos (rot_ne hf.ne (qk f l))
  have b0 := lenq_pos hl.ne
  have em := rest_mul (p := crs (rot (qk f l) f) l) (q := lenq (rot (qk f l) f) * lenq l + dot (rot (qk f l) f) l) (by omega)
  unfold restR
  generalize crs (rot (qk f l) f) l = c at *
  generalize dot (rot (qk f l) f) l = d at *
  generalize lenq (rot (qk f l) f) = A at *
  generalize lenq l = B at *
  have lt : c < A * B + d := by
    have hAB : 0 < A * B := Int.mul_pos a0 b0
    have : c * c ≤ (A * B) * (A * B) := by
      have h2 : 0 ≤ d * d := Int.mul_nonneg (by omega) (by omega)
      have e : (A * A) * (B * B) = (A * B) * (A * B) := by grind
      omega
    have : c ≤ A * B := by
      rcases (by omega : A * B < c ∨ c ≤ A * B) with z | z
      · have := Int.mul_lt_mul z (Int.le_of_lt z) hAB (by omega)
        omega
      · exact z
    omega
  have q0 : (0 : Rat) < ((A * B + d : Int) : Rat) := Rat.intCast_pos.mpr (by omega)
  constructor
  · rw [Rat.div_def]
    exact Rat.mul_nonneg (Rat.intCast_nonneg.mpr hc) (Rat.le_of_lt (Rat.inv_pos.mpr q0))
  · rw [Rat.div_lt_iff q0, Rat.one_mul]
    exact Rat.intCast_lt_intCast.mpr lt
theorem len_nonneg {n : Nat} {f : Fc} (h : FcGood n f) : 0 ≤ lenR f := by
  cases f with
  | side a b => exact (by decide : (0 : Rat) ≤ 1)
  | round c r f l =>
    obtain ⟨hf, hl, _⟩ := h
    exact Rat.add_nonneg (Rat.intCast_nonneg.mpr (by omega)) (rest_bounds hf hl).1
theorem len_le {n : Nat} {f : Fc} (h : FcGood n f) : lenR f ≤ 5 := by
  cases f with
  | side a b => exact (by decide : (1 : Rat) ≤ 5)
  | round c r f l =>
    obtain ⟨hf, hl, _⟩ := h
    have h1 : (((qk f l : Nat) : Int) : Rat) ≤ ((4 : Int) : Rat) := Rat.intCast_le_intCast.mpr (by have := qk_le f l; omega)
    have h2 := (rest_bounds hf hl).2
    show (((qk f l : Nat) : Int) : Rat) + restR _ _ ≤ 5
    rw [show ((4 : Int) : Rat) = 4 from rfl] at h1
    grind
/-- at a round's end the direction is its last -/
theorem dirU_end {n : Nat} {f l : P2} (hf : DirOk n f) (hl : DirOk n l) : dirU f ((((qk f l : Nat) : Int) : Rat) + restR (rot (qk f l) f) l) = unitR l := by
  obtain ⟨b0, b1⟩ := rest_bounds hf hl
  obtain ⟨e1, e2⟩ := flq_of rfl b0 b1
  have hp := rest_pos hf hl
  have lg := lagrange (rot (qk f l) f) l
  have sA := lenq_sq (hf.rot (qk f l))
  rw [← sA, ← lenq_sq hl] at lg
  have a0 := lenq_pos (rot_ne hf.ne (qk f l))
  have l0 := lenq_pos hl.ne
  have em := rest_mul (p := crs (rot (qk f l) f) l) (q := lenq (rot (qk f l) f) * lenq l + dot (rot (qk f l) f) l) (by omega)
  have eA : lenq f = lenq (rot (qk f l) f) := (lenq_rot f (qk f l)).symm
  unfold dirU unitR
  rw [e1, e2, eA]
  have un := under_ne (t := restR (rot (qk f l) f) l) (rot_ne hf.ne (qk f l))
  have em' : restR (rot (qk f l) f) l * ((lenq (rot (qk f l) f) * lenq l + dot (rot (qk f l) f) l : Int) : Rat) = ((crs (rot (qk f l) f) l : Int) : Rat) := em
  generalize restR (rot (qk f l) f) l = t at *
  generalize rot (qk f l) f = h at *
  have la := castne (show lenq h ≠ 0 by omega)
  have lb := castne (show lenq l ≠ 0 by omega)
  have ld := castne (show lenq h * lenq l + dot h l ≠ 0 by omega)
  -- in fractions
  have c1 : ((crs h l : Int) : Rat) = (h.1 : Rat) * l.2 - (h.2 : Rat) * l.1 := by unfold crs; simp only [Rat.intCast_sub, Rat.intCast_mul]
  have d1 : ((dot h l : Int) : Rat) = (h.1 : Rat) * l.1 + (h.2 : Rat) * l.2 := by unfold dot; simp only [Rat.intCast_add, Rat.intCast_mul]
  have A1 : ((lenq h : Int) : Rat) * ((lenq h : Int) : Rat) = (h.1 : Rat) * h.1 + (h.2 : Rat) * h.2 := by
    rw [← Rat.intCast_mul, sA]; unfold dot; simp only [Rat.intCast_add, Rat.intCast_mul]
  have B1 : ((lenq l : Int) : Rat) * ((lenq l : Int) : Rat) = (l.1 : Rat) * l.1 + (l.2 : Rat) * l.2 := by
    rw [← Rat.intCast_mul, lenq_sq hl]; unfold dot; simp only [Rat.intCast_add, Rat.intCast_mul]
  rw [Rat.intCast_add, Rat.intCast_mul, d1] at em' ld
  rw [c1] at em'
  have ne2 : ((0 - h.2 : Int) : Rat) = - (h.2 : Rat) := by rw [Rat.intCast_sub]; grind
  rw [ne2]
  generalize ((lenq h : Int) : Rat) = A at *
  generalize ((lenq l : Int) : Rat) = B at *
  generalize (h.1 : Rat) = x at *
  generalize (h.2 : Rat) = y at *
  generalize (l.1 : Rat) = u at *
  generalize (l.2 : Rat) = v at *
  -- D = A B + x u + y v, t D = x v - y u, D² (1 + t²) = 2 A B D
  have k1 : (A * B + (x * u + y * v)) * (A * B + (x * u + y * v)) * (1 + t * t) = 2 * (A * B) * (A * B + (x * u + y * v)) := by grind
  have k2 : (A * B + (x * u + y * v)) * (1 + t * t) = 2 * (A * B) := by
    have : (A * B + (x * u + y * v)) * ((A * B + (x * u + y * v)) * (1 + t * t) - 2 * (A * B)) = 0 := by grind
    rcases Rat.mul_eq_zero.mp this with z | z
    · exact absurd z ld
    · grind
  have k3 : (A * B + (x * u + y * v)) * (1 - t * t) = 2 * (x * u + y * v) := by
    have : (A * B + (x * u + y * v)) * ((A * B + (x * u + y * v)) * (1 - t * t) - 2 * (x * u + y * v)) = 0 := by grind
    rcases Rat.mul_eq_zero.mp this with z | z
    · exact absurd z ld
    · grind
  have fin : ∀ a b c : Rat, (A * B + (x * u + y * v)) * (a * B) = (A * B + (x * u + y * v)) * (c * ((1 + t * t) * A)) → a / ((1 + t * t) * A) = c / B := by
    intro a b c hh
    have h2 : a * B = c * ((1 + t * t) * A) := by
      have : (A * B + (x * u + y * v)) * (a * B - c * ((1 + t * t) * A)) = 0 := by grind
      rcases Rat.mul_eq_zero.mp this with z | z
      · exact absurd z ld
      · grind
    have z1 : a = (a / ((1 + t * t) * A)) * ((1 + t * t) * A) := (Rat.div_mul_cancel un).symm
    have z2 : c = (c / B) * B := (Rat.div_mul_cancel lb).symm
    generalize a / ((1 + t * t) * A) = p at *
    generalize c / B = q at *
    subst z2
    subst z1
    have : (p - q) * (((1 + t * t) * A) * B) = 0 := by grind
    rcases Rat.mul_eq_zero.mp this with z | z
    · grind
    · rcases Rat.mul_eq_zero.mp z with z | z
      · exact absurd z un
      · exact absurd z lb
  refine Prod.ext ?_ ?_
  · refine fin _ 0 _ ?_
    grind
  · refine fin _ 0 _ ?_
    grind
/-- the spoke at a face's end is the one at the next one's beginning -/
def Joins (f g : Fc) : Prop := spokeR f (lenR f) = spokeR g 0
def Chain : List Fc → Prop
  | [] => True
  | f :: fs => (match fs with | [] => True | g :: _ => Joins f g) ∧ Chain fs
theorem pickD_app (z : Rat) (p : Rat × Fc) : ∀ xs : List (Rat × Fc), pickD z (xs ++ [p]) = match pickD z xs with | some q => some q | none => if z < p.1 then none else some p
  | [] => rfl
  | x :: xs => by
    show (if z < x.1 then pickD z (xs ++ [p]) else some x) = match (if z < x.1 then pickD z xs else some x) with | some q => some q | none => if z < p.1 then none else some p
    by_cases h : z < x.1
    · rw [if_pos h, if_pos h]
      exact pickD_app z p xs
    · rw [if_neg h, if_neg h]
theorem pickD_none {z : Rat} : ∀ (fs : List Fc) (r : Rat), (∀ f ∈ fs, 0 ≤ lenR f) → z < r → pickD z (pairsL r fs).reverse = none
  | [], _, _, _ => rfl
  | f :: fs, r, h, hz => by
    show pickD z ((r, f) :: pairsL (r + lenR f) fs).reverse = none
    rw [List.reverse_cons, pickD_app]
    have h0 := h f (List.mem_cons_self ..)
    rw [pickD_none fs (r + lenR f) (fun g hg => h g (List.mem_cons_of_mem _ hg)) (by grind)]
    exact if_pos hz
theorem picks {z : Rat} : ∀ (fs : List Fc) (r : Rat), fs ≠ [] → (∀ f ∈ fs, 0 ≤ lenR f) → Chain fs → r ≤ z → z ≤ sumR r fs →
    ∃ p q, pickD z (pairsL r fs).reverse = some p ∧ pickA z r fs = some q ∧ r ≤ p.1 ∧ p.1 ≤ z ∧ r ≤ q.1 ∧ q.1 ≤ z ∧ spokeR p.2 (z - p.1) = spokeR q.2 (z - q.1)
  | [], _, h, _, _, _, _ => absurd rfl h
  | f :: fs, r, _, hl, hc, h0, h1 => by
    have l0 := hl f (List.mem_cons_self ..)
    have hl' : ∀ g ∈ fs, 0 ≤ lenR g := fun g hg => hl g (List.mem_cons_of_mem _ hg)
    show ∃ p q, pickD z ((r, f) :: pairsL (r + lenR f) fs).reverse = some p ∧ (if z ≤ r + lenR f then some (r, f) else pickA z (r + lenR f) fs) = some q ∧ _
    rw [List.reverse_cons, pickD_app]
    by_cases hz : z < r + lenR f
    · rw [pickD_none fs _ hl' hz, if_pos (show z ≤ r + lenR f from Rat.le_of_lt hz)]
      dsimp only
      rw [if_neg (show ¬ z < r from Rat.not_lt.mpr h0)]
      exact ⟨_, _, rfl, rfl, Rat.le_refl, h0, Rat.le_refl, h0, rfl⟩
    · have hz' : r + lenR f ≤ z := Rat.not_lt.mp hz
      cases fs with
      | nil =>
        have e : z = r + lenR f := Rat.le_antisymm h1 hz'
        rw [if_pos (show z ≤ r + lenR f by rw [e]; exact Rat.le_refl)]
        have : pickD z (pairsL (r + lenR f) []).reverse = none := rfl
        rw [this]
        dsimp only
        rw [if_neg (show ¬ z < r from Rat.not_lt.mpr h0)]
        exact ⟨_, _, rfl, rfl, Rat.le_refl, h0, Rat.le_refl, h0, rfl⟩
      | cons g gs =>
        obtain ⟨p, q, e1, e2, p0, p1, q0, q1, es⟩ := picks (g :: gs) (r + lenR f) (by simp) hl' hc.2 hz' h1
        rw [e1]
        dsimp only
        by_cases hz2 : z ≤ r + lenR f
        · rw [if_pos hz2]
          have e : z = r + lenR f := Rat.le_antisymm hz2 hz'
          have hg := hl' g (List.mem_cons_self ..)
          have : pickA z (r + lenR f) (g :: gs) = some (r + lenR f, g) := if_pos (by rw [e]; grind)
          rw [this] at e2
          cases e2
          refine ⟨_, _, rfl, rfl, by grind, p1, Rat.le_refl, h0, ?_⟩
          rw [es]
          dsimp only
          have s1 : z - (r + lenR f) = 0 := by grind
          have s2 : z - r = lenR f := by grind
          rw [s1, s2]
          exact hc.1.symm
        · rw [if_neg hz2]
          exact ⟨_, _, rfl, e2, by grind, p1, by grind, q1, es⟩
end Lb

namespace Lb
open PySem PySem.Spec PyProof.Rows L2 Bl
/-! ### the faces of a thing join -/
theorem sqrt_uniq {a b : Int} (ha : 0 ≤ a) (hb : 0 ≤ b) (h : a * a = b * b) : a = b := by
  rcases Int.lt_trichotomy a b with z | z | z
  · have h2 : a * a < b * b := by
      have h3 : a * a ≤ a * b := Int.mul_le_mul_of_nonneg_left (by omega) ha
      have h4 : a * b < b * b := Int.mul_lt_mul_of_pos_right z (by omega)
      omega
    omega
  · exact z
  · have h2 : b * b < a * a := by
      have h3 : b * b ≤ b * a := Int.mul_le_mul_of_nonneg_left (by omega) hb
      have h4 : b * a < a * a := Int.mul_lt_mul_of_pos_right z (by omega)
      omega
    omega
/-- an arc's point by its direction -/
theorem arc_point {n : Nat} {c q : P2} {r : Int} (hne : q ≠ c) (r0 : 0 ≤ r) (hr : r * r = far c q) (ho : DirOk n (low (dif q c))) :
    ((c.1 : Int) : Rat) + ((r : Int) : Rat) * (unitR (low (dif q c))).1 = ((q.1 : Int) : Rat) ∧ ((c.2 : Int) : Rat) + ((r : Int) : Rat) * (unitR (low (dif q c))).2 = ((q.2 : Int) : Rat) := by
  obtain ⟨e1, e2⟩ := low_mul (dif_ne hne)
  have g0 := gcd_pos' (dif_ne hne)
  have l0 := lenq_pos ho.ne
  have ls := lenq_sq ho
  have ef : far c q = dot (dif q c) (dif q c) := by unfold far dif dot; dsimp only; grind
  have d1 : (dif q c).1 = q.1 - c.1 := rfl
  have d2 : (dif q c).2 = q.2 - c.2 := rfl
  have er : r = (Int.gcd (dif q c).1 (dif q c).2 : Int) * lenq (low (dif q c)) := by
    refine sqrt_uniq r0 (Int.mul_nonneg (by omega) (by omega)) ?_
    rw [hr, ef]
    have : dot (dif q c) (dif q c) = (Int.gcd (dif q c).1 (dif q c).2 : Int) * (Int.gcd (dif q c).1 (dif q c).2 : Int) * dot (low (dif q c)) (low (dif q c)) := by
      unfold dot
      generalize (Int.gcd (dif q c).1 (dif q c).2 : Int) = G at *
      rw [e1, e2]
      generalize low (dif q c) = L at *
      grind
    rw [this, ← ls]
    generalize (Int.gcd (dif q c).1 (dif q c).2 : Int) = G at *
    grind
  generalize (Int.gcd (dif q c).1 (dif q c).2 : Int) = G at *
  rw [d1] at e1
  rw [d2] at e2
  have lb := castne (show lenq (low (dif q c)) ≠ 0 by omega)
  unfold unitR
  generalize low (dif q c) = L at *
  have z : ∀ u : Int, ((r : Int) : Rat) * ((u : Rat) / ((lenq L : Int) : Rat)) = ((G * u : Int) : Rat) := fun u => by
    have := Rat.div_mul_cancel (a := (u : Rat)) lb
    rw [er]
    simp only [Rat.intCast_mul]
    generalize (u : Rat) / ((lenq L : Int) : Rat) = p at *
    grind
  have c1 : c.1 + G * L.1 = q.1 := by omega
  have c2 : c.2 + G * L.2 = q.2 := by omega
  rw [z, z, ← Rat.intCast_add, ← Rat.intCast_add, c1, c2]
  exact ⟨rfl, rfl⟩
theorem one_cast (x y : Int) : ((x : Int) : Rat) + 1 * ((y - x : Int) : Rat) = ((y : Int) : Rat) := by
  rw [Rat.intCast_sub]; grind
theorem zero_cast (x y : Int) : ((x : Int) : Rat) + 0 * ((y - x : Int) : Rat) = ((x : Int) : Rat) := by grind
theorem rad_zero (x : Int) (d : Rat) : ((x : Int) : Rat) + ((0 : Int) : Rat) * d = ((x : Int) : Rat) := by
  rw [show ((0 : Int) : Rat) = 0 from rfl]; grind
theorem spoke_side1 (p q : P2) : spokeR (.side p q) (lenR (.side p q)) = ((((q.1 : Int) : Rat), ((q.2 : Int) : Rat)), unitR (outw p q)) := by
  show ((((p.1 : Int) : Rat) + 1 * ((q.1 - p.1 : Int) : Rat), ((p.2 : Int) : Rat) + 1 * ((q.2 - p.2 : Int) : Rat)), unitR (outw p q)) = _
  rw [one_cast, one_cast]
theorem spoke_side0 (p q : P2) : spokeR (.side p q) 0 = ((((p.1 : Int) : Rat), ((p.2 : Int) : Rat)), unitR (outw p q)) := by
  show ((((p.1 : Int) : Rat) + 0 * ((q.1 - p.1 : Int) : Rat), ((p.2 : Int) : Rat) + 0 * ((q.2 - p.2 : Int) : Rat)), unitR (outw p q)) = _
  rw [zero_cast, zero_cast]
theorem spoke_round0 (c : P2) (f l : P2) : spokeR (.round c 0 f l) 0 = ((((c.1 : Int) : Rat), ((c.2 : Int) : Rat)), unitR f) := by
  show ((((c.1 : Int) : Rat) + ((0 : Int) : Rat) * _, ((c.2 : Int) : Rat) + ((0 : Int) : Rat) * _), dirU f 0) = _
  rw [rad_zero, rad_zero, dirU_zero]
theorem spoke_round1 {n : Nat} (c : P2) {f l : P2} (hf : DirOk n f) (hl : DirOk n l) : spokeR (.round c 0 f l) (lenR (.round c 0 f l)) = ((((c.1 : Int) : Rat), ((c.2 : Int) : Rat)), unitR l) := by
  show ((((c.1 : Int) : Rat) + ((0 : Int) : Rat) * _, ((c.2 : Int) : Rat) + ((0 : Int) : Rat) * _), dirU f ((((qk f l : Nat) : Int) : Rat) + restR (rot (qk f l) f) l)) = _
  rw [rad_zero, rad_zero, dirU_end hf hl]
theorem faces_chain {t : Th} (h : GoodTh t) : Chain (facesL t) := by
  cases t with
  | spot p => exact ⟨trivial, trivial⟩
  | cord p q =>
    obtain ⟨hp, hq, hne, w⟩ := h
    have w' : Whole (far q p) := by rw [far_comm]; exact w
    have o1 := outw_ok hne hp hq w
    have o2 := outw_ok (Ne.symm hne) hq hp w'
    refine ⟨?_, ?_, ?_, trivial, trivial⟩
    · show spokeR _ _ = spokeR _ _
      rw [spoke_side1, spoke_round0]
    · show spokeR _ _ = spokeR _ _
      rw [spoke_round1 q o1 o2, spoke_side0]
    · show spokeR _ _ = spokeR _ _
      rw [spoke_side1, spoke_round0]
  | bow c p q =>
    obtain ⟨hc, hp, hq, hb⟩ := h
    obtain ⟨np, nq⟩ := hb.np
    have w' : Whole (far q p) := by rw [far_comm]; exact hb.wd
    have o2 := outw_ok (Ne.symm hb.ne) hq hp w'
    have d1 := dir_of np hp hc hb.wr
    have d2 := dir_of nq hq hc (by rw [← hb.eq]; exact hb.wr)
    refine ⟨?_, ?_, ?_, trivial, trivial⟩
    · show spokeR _ _ = spokeR _ _
      rw [spoke_round0]
      obtain ⟨e1, e2⟩ := arc_point (r := (isq (far c p).toNat : Nat)) nq (by omega) (by rw [← hb.eq]; exact hb.wr.isq) d2
      show ((((c.1 : Int) : Rat) + _ * _, ((c.2 : Int) : Rat) + _ * _), dirU _ ((((qk (low (dif p c)) (low (dif q c)) : Nat) : Int) : Rat) + restR (rot (qk (low (dif p c)) (low (dif q c))) (low (dif p c))) (low (dif q c)))) = _
      rw [show lenR (.round c (isq (far c p).toNat) (low (dif p c)) (low (dif q c))) = ((((qk (low (dif p c)) (low (dif q c)) : Nat) : Int) : Rat) + restR (rot (qk (low (dif p c)) (low (dif q c))) (low (dif p c))) (low (dif q c))) from rfl]
      rw [dirU_end d1 d2, e1, e2]
    · show spokeR _ _ = spokeR _ _
      rw [spoke_round1 q d2 o2, spoke_side0]
    · show spokeR _ _ = spokeR _ _
      rw [spoke_side1, spoke_round0]
theorem faces_ne (t : Th) : facesL t ≠ [] := by cases t <;> simp [facesL]
theorem spokes_same {t : Th} {z : Rat} (h : GoodTh t) (z0 : 0 ≤ z) (z1 : z ≤ aroundR t) :
    ∃ p q, pickD z (pairsL 0 (facesL t)).reverse = some p ∧ pickA z 0 (facesL t) = some q ∧ 0 ≤ p.1 ∧ p.1 ≤ z ∧ 0 ≤ q.1 ∧ q.1 ≤ z ∧ spokeR p.2 (z - p.1) = spokeR q.2 (z - q.1) :=
  picks (facesL t) 0 (faces_ne t) (fun f hf => len_nonneg (faces_good h f hf)) (faces_chain h) z0 z1
theorem around_le {t : Th} (h : GoodTh t) : 0 ≤ aroundR t ∧ aroundR t ≤ 20 := by
  have go : ∀ (xs : List Fc) (r : Rat), (∀ f ∈ xs, FcGood 12 f) → r ≤ sumR r xs ∧ sumR r xs ≤ r + 5 * ((xs.length : Nat) : Int) := by
    intro xs
    induction xs with
    | nil => intro r _; exact ⟨Rat.le_refl, by show r ≤ r + 5 * ((0 : Int) : Rat); rw [show ((0 : Int) : Rat) = 0 from rfl]; grind⟩
    | cons f fs ih =>
      intro r hf
      have hf0 := hf f (List.mem_cons_self ..)
      obtain ⟨a, b⟩ := ih (r + lenR f) fun g hg => hf g (List.mem_cons_of_mem _ hg)
      have l0 := len_nonneg hf0
      have l1 := len_le hf0
      refine ⟨?_, ?_⟩
      · show r ≤ sumR (r + lenR f) fs
        grind
      · show sumR (r + lenR f) fs ≤ _
        rw [List.length_cons]
        have e : (((fs.length + 1 : Nat) : Int) : Rat) = ((fs.length : Int) : Rat) + 1 := by
          rw [show ((fs.length + 1 : Nat) : Int) = (fs.length : Int) + 1 by omega, Rat.intCast_add]
          rfl
        rw [e]
        grind
  have hl : (facesL t).length ≤ 4 := by cases t <;> simp [facesL]
  obtain ⟨a, b⟩ := go (facesL t) 0 (faces_good h)
  have : (((facesL t).length : Int) : Rat) ≤ ((4 : Int) : Rat) := Rat.intCast_le_intCast.mpr (by omega)
  rw [show ((4 : Int) : Rat) = 4 from rfl] at this
  unfold aroundR
  exact ⟨a, by grind⟩
end Lb

namespace K11
open PySem PySem.Spec PyProof.Rows L2 Bl Lb
def t_look_spoke : TSd := sIf (tOrD (tNotD (ttr (dCall m_is_fraction 1 0 (fun ds _ => ds) (aCons (vr 1) (aNil)) aNil))) (tOrD (tbl (dTwo (dTwo (vr 1) (cn (.int 0)) fIx) (cn (.int 0)) fLt)) (ttr (dCall m_is_less 2 0 (fun ds _ => ds) (aCons (dCall m_around 1 0 (fun ds _ => ds) (aCons (vr 0) (aNil)) aNil) (aCons (vr 1) (aNil))) aNil)))) (sRaiseF "NoSpoke" "z" (vr 1)) (sNx)
def m_look_spoke : TFd := fnD 2 2 t_look_spoke
theorem e_look_spoke {a0 a1 : D} {S : Sto} {Q : DK} {E : EK} (k : t_look_spoke [some a0, some a1] S ⟨fun _ S1 => Q .non S1, Q, fun _ _ => False, fun _ _ => False, fun x _ S1 => E x S1⟩) : m_look_spoke [a0, a1] S Q E := ⟨rfl, k⟩
def t_spoke : TSd := sSeq (sDrop (dCall m_look_spoke 2 0 (fun ds _ => ds) (aCons (vr 0) (aCons (vr 1) (aNil))) aNil)) (sSeq (sFor (iZipRD (dCall m_beginnings 1 0 (fun ds _ => ds) (aCons (vr 0) (aNil)) aNil) (dCall m_faces 1 0 (fun ds _ => ds) (aCons (vr 0) (aNil)) aNil)) (.tp (.nm 2 :: .nm 3 :: [])) (sIf (tNotD (ttr (dCall m_is_less 2 0 (fun ds _ => ds) (aCons (vr 1) (aCons (vr 2) (aNil))) aNil))) (sRet (dCall m_spoke_of 2 0 (fun ds _ => ds) (aCons (vr 3) (aCons (dCall m_minus 2 0 (fun ds _ => ds) (aCons (vr 1) (aCons (vr 2) (aNil))) aNil) (aNil))) aNil)) (sNx))) (sRaiseF "NoSpoke" "z" (vr 1)))
def m_spoke : TFd := fnD 2 4 t_spoke
theorem e_spoke {a0 a1 : D} {S : Sto} {Q : DK} {E : EK} (k : t_spoke [some a0, some a1, none, none] S ⟨fun _ S1 => Q .non S1, Q, fun _ _ => False, fun _ _ => False, fun x _ S1 => E x S1⟩) : m_spoke [a0, a1] S Q E := ⟨rfl, k⟩
def t_l_refused : TSd := sSeq (sTryF (sDrop (dCall m_spoke 2 0 (fun ds _ => ds) (aCons (vr 0) (aCons (vr 1) (aNil))) aNil)) (sbOne "NoSpoke") 2 (fun a dd _ => sSeq (sAsg (dIsF 2 a dd (some false)) (.nm 3)) (sRet (eIf (tbl (dIsF 2 a dd (some true))) (eIf (tbl (vNot (vr 3))) (dTwo (dB bStrG (aCons (dXf 2 a dd "z") (aNil))) (dB bStrG (aCons (vr 1) (aNil))) fEqT) (cn (.bl false))) (cn (.bl false)))))) (sRet (cn (.bl false)))
def m_l_refused : TFd := fnD 2 4 t_l_refused
theorem e_l_refused {a0 a1 : D} {S : Sto} {Q : DK} {E : EK} (k : t_l_refused [some a0, some a1, none, none] S ⟨fun _ S1 => Q .non S1, Q, fun _ _ => False, fun _ _ => False, fun x _ S1 => E x S1⟩) : m_l_refused [a0, a1] S Q E := ⟨rfl, k⟩
def t_l_joins_right : TSd := sSeq (sAsg (dTup (aCons (cn (.int 0)) (aCons (cn (.int 1)) (aNil)))) (.nm 1)) (sSeq (sAsg (dCall m_l_faces 1 0 (fun ds _ => ds) (aCons (vr 0) (aNil)) aNil) (.nm 2)) (sSeq (sFor (iEnumD (vr 2)) (.tp (.nm 3 :: .nm 4 :: [])) (sSeq (sAsg (dCall m_l_plus 2 0 (fun ds _ => ds) (aCons (vr 1) (aCons (dCall m_l_length 1 0 (fun ds _ => ds) (aCons (vr 4) (aNil)) aNil) (aNil))) aNil) (.nm 1)) (sSeq (sAsg (dCall m_spoke 2 0 (fun ds _ => ds) (aCons (vr 0) (aCons (vr 1) (aNil))) aNil) (.tp (.nm 5 :: .nm 6 :: []))) (sSeq (sAsg (dTwo (vr 2) (dTwo (dTwo (vr 3) (cn (.int 1)) fAdd) (dB bLen (aCons (vr 2) (aNil))) fMod) fIx) (.nm 7)) (sSeq (sAsg (eIf (tbl (dTwo (dTwo (vr 7) (cn (.int 0)) fIx) (cn (.str "round")) fEq)) (dTwo (vr 7) (cn (.int 3)) fIx) (dCall m_l_right 2 0 (fun ds _ => ds) (aCons (dTwo (vr 7) (cn (.int 1)) fIx) (aCons (dTwo (vr 7) (cn (.int 2)) fIx) (aNil))) aNil)) (.nm 8)) (sSeq (sIf (tbl (dTwo (vr 6) (dCall m_l_direction 2 0 (fun ds _ => ds) (aCons (vr 8) (aCons (dTup (aCons (cn (.int 0)) (aCons (cn (.int 1)) (aNil)))) (aNil))) aNil) fNe)) (sRet (cn (.bl false))) (sNx)) (sIf (tAndD (tbl (dTwo (dTwo (vr 4) (cn (.int 0)) fIx) (cn (.str "side")) fEq)) (tbl (dTwo (vr 5) (dTup (aCons (dTup (aCons (dTwo (dTwo (vr 4) (cn (.int 2)) fIx) (cn (.int 0)) fIx) (aCons (cn (.int 1)) (aNil)))) (aCons (dTup (aCons (dTwo (dTwo (vr 4) (cn (.int 2)) fIx) (cn (.int 1)) fIx) (aCons (cn (.int 1)) (aNil)))) (aNil)))) fNe))) (sRet (cn (.bl false))) (sNx)))))))) (sRet (dTwo (dCall m_spoke 2 0 (fun ds _ => ds) (aCons (vr 0) (aCons (dTup (aCons (cn (.int 0)) (aCons (cn (.int 1)) (aNil)))) (aNil))) aNil) (dCall m_spoke 2 0 (fun ds _ => ds) (aCons (vr 0) (aCons (dCall m_around 1 0 (fun ds _ => ds) (aCons (vr 0) (aNil)) aNil) (aNil))) aNil) fEq))))
def m_l_joins_right : TFd := fnD 1 9 t_l_joins_right
theorem e_l_joins_right {a0 : D} {S : Sto} {Q : DK} {E : EK} (k : t_l_joins_right [some a0, none, none, none, none, none, none, none, none] S ⟨fun _ S1 => Q .non S1, Q, fun _ _ => False, fun _ _ => False, fun x _ S1 => E x S1⟩) : m_l_joins_right [a0] S Q E := ⟨rfl, k⟩
def t_law : TSd := sSeq (sFor (iR1 (aCons (dTwo (cn (.int 1)) (dB bMin (aCons (cn (.int 4)) (aCons (dB bLen (aCons (vr 0) (aNil))) (aNil)))) fAdd) (aNil))) (.nm 1) (sSeq (sAsg (dCall m_l_bag 2 0 (fun ds _ => ds) (aCons (vr 0) (aCons (vr 1) (aNil))) aNil) (.nm 2)) (sFor (iR1 (aCons (cn (.int 3)) (aNil))) (.nm 3) (sSeq (sAsg (dCall m_l_thing 2 0 (fun ds _ => ds) (aCons (vr 2) (aCons (cn (.int 400)) (aNil))) aNil) (.nm 4)) (sSeq (sAsg (dCall m_l_around 1 0 (fun ds _ => ds) (aCons (vr 4) (aNil)) aNil) (.nm 5)) (sSeq (sAsg (dTwo (dLst (aCons (cn (.int 1)) (aCons (dTwo (cn (.int 10)) (cn (.int 6)) fPow) (aCons (dTwo (cn (.int 10)) (cn (.int 20)) fPow) (aNil))))) (dCall m_l_take 2 0 (fun ds _ => ds) (aCons (vr 2) (aCons (cn (.int 3)) (aNil))) aNil) fIx) (.nm 6)) (sSeq (sAsg (dLst (aCons (dCall m_l_plus 2 0 (fun ds _ => ds) (aCons (vr 5) (aCons (dTup (aCons (cn (.int 1)) (aCons (vr 6) (aNil)))) (aNil))) aNil) (aCons (dTup (aCons (dNeg (cn (.int 1))) (aCons (vr 6) (aNil)))) (aCons (dCall m_l_plus 2 0 (fun ds _ => ds) (aCons (vr 5) (aCons (dTup (aCons (vr 6) (aCons (cn (.int 1)) (aNil)))) (aNil))) aNil) (aCons (dTup (aCons (cn (.int 0)) (aCons (cn (.int 2)) (aNil)))) (aCons (dTup (aCons (cn (.int 2)) (aCons (cn (.int 2)) (aNil)))) (aCons (dTup (aCons (cn (.int 1)) (aCons (cn (.int 0)) (aNil)))) (aCons (dTup (aCons (cn (.int 1)) (aCons (dNeg (cn (.int 1))) (aNil)))) (aCons (cn (.int 1)) (aNil)))))))))) (.nm 7)) (sSeq (sAsg (dTwo (vr 7) (dLst (aCons (dTup (aCons (dTwo (vr 5) (cn (.int 0)) fIx) (aNil))) (aCons (dTup (aCons (cn (.bl true)) (aCons (cn (.int 1)) (aNil)))) (aCons (dTup (aCons (cn (.int 1)) (aCons (cn (.bl true)) (aNil)))) (aCons (dTup (aCons (cn (.int 0)) (aCons (cn (.str "1")) (aNil)))) (aCons (dLst (aCons (cn (.int 0)) (aCons (cn (.int 1)) (aNil)))) (aCons (cn .non) (aCons (cn (.str "0")) (aCons (dTup (aCons (cn (.int 0)) (aCons (cn (.int 1)) (aCons (cn (.int 1)) (aNil))))) (aCons (dTup (aCons (dTup (aCons (cn (.int 0)) (aCons (cn (.int 1)) (aNil)))) (aNil))) (aCons (cn (.int 0)) (aNil)))))))))))) fCat) (.nm 7)) (sIf (tOrD (tNotD (ttr (dB bAll (aCons (dLc (iVal (vr 7)) (.nm 9) (tYesD) (dCall m_l_refused 2 0 (fun ds _ => ds) (aCons (vr 4) (aCons (vr 9) (aNil))) aNil) [8, 9]) (aNil))))) (tNotD (ttr (dCall m_l_joins_right 1 0 (fun ds _ => ds) (aCons (vr 4) (aNil)) aNil)))) (sRet (cn (.bl false))) (sNx)))))))))) (sRet (cn (.bl true)))
def m_law : TFd := fnD 1 10 t_law
theorem e_law {a0 : D} {S : Sto} {Q : DK} {E : EK} (k : t_law [some a0, none, none, none, none, none, none, none, none, none] S ⟨fun _ S1 => Q .non S1, Q, fun _ _ => False, fun _ _ => False, fun x _ S1 => E x S1⟩) : m_law [a0] S Q E := ⟨rfl, k⟩
end K11

namespace K11
open PySem PySem.Spec PyProof.Rows L2 Bl Lb
local macro_rules | `(tactic| walk_at "mo") => `(tactic| (repeat' first
  | exact moVr _ | exact moCn _ | exact moEqT | exact moIsF | exact moXf | refine moB bStrG_mo ?_ | (with_reducible refine moCall ?_ ?_ ?_) | exact moYesD | exact moNilA | exact moONone | exact moAdd | exact moSub | exact moMul | exact moDiv | exact moMod | exact moPow | exact moShl | exact moLt | exact moLe | exact moGt | exact moGe | exact moEq | exact moNe | exact moIs | exact moIsNot | exact moIn _ | exact moIx | exact moCat | exact moRep01 | exact moCatR | exact moNeR | refine moSortSet ?_
  | (with_reducible refine moTup ?_) | (with_reducible refine moLst ?_) | refine moTwo ?_ ?_ ?_ | refine moConsA ?_ ?_ | refine moTup ?_ | refine moLst ?_ | refine moTbl ?_ | refine moTtr ?_ | refine moAndD ?_ ?_ | refine moOrD ?_ ?_ | refine moNotD ?_ | refine moVOf ?_ | refine moEIf ?_ ?_ ?_ | refine moNeg ?_ | refine moChain ?_ ?_ ?_ ?_ ?_ | refine moSl ?_ ?_ ?_ | refine moOSome ?_ | refine moIsi ?_
  | refine moCall ?_ ?_ ?_ | refine moLc ?_ ?_ ?_ | refine moRvs ?_ ?_ | refine moLcG ?_ ?_ ?_ | refine moIVal ?_ | refine moR1 ?_ | refine moR2 ?_ | refine moEnumD ?_ | refine moRevD ?_ | refine moZipD ?_ ?_ | refine moZipSD ?_ ?_ | refine moZipRD ?_ ?_ | refine moGetL ?_ ?_ ?_ | refine moB (cd_len (X := X)).mo ?_ | refine moB (cd_abs (X := X)).mo ?_ | refine moB (cd_int (X := X)).mo ?_ | refine moB (cd_tup (X := X)).mo ?_ | refine moB (cd_lst (X := X)).mo ?_))
section
variable {P : Program} {w : World} {K : PySem.W.Frag} {mg : Str → Option Value} {base : Heap}
theorem Tk_ZERO (T : Tp fa fn bx K mg) : GC K mg "ZERO" k_ZERO := gc_tupI (T.glo 51) (all_at T.bx 5 rfl)
theorem Tk_ONE (T : Tp fa fn bx K mg) : GC K mg "ONE" k_ONE := gc_tupI (T.glo 54) (all_at T.bx 6 rfl)
theorem body_l_cell_at (T : Tp fa fn bx K mg) {X : Cx} {W : WX} (d : JD P w K mg base nm_l_cell_at (defScope (top 44)) vw_l_cell_at 0 X W) : JB X W (defBody (top 44)) t_l_cell_at :=
  jb_cons (js_if (jt_cmp opD_lt (jv d.toJC 1 (mm 1) rfl) (je_callB d.toJC cd_len (mm 0) (T.free 2) (by decide +kernel) (ja_cons (jv d.toJC 0 (mm 0) rfl) (ja_nil))) rfl) (jb_one (js_ret (je_ix (jv d.toJC 0 (mm 0) rfl) (jv d.toJC 1 (mm 1) rfl)))) (jb_nil)) (jb_one (js_ret (je_int)))
theorem Tj_l_cell_at (T : Tp fa fn bx K mg) : JF P w K mg base "_law_cell_at" 2 [] (fun ds _ => ds) 1 m_l_cell_at := by
  obtain ⟨fd, F⟩ := T.sy.def_ 0 (d := d_l_cell_at) rfl
  exact jf_mkN F fs_l_cell_at sc_l_cell_at (T.glo 11) ⟨rfl, by decide, by decide⟩ (fun _ _ _ _ _ _ us hl => match us, hl with | [_, _], _ => rfl) (fun X W d => body_l_cell_at T d)
theorem body_l_bag (T : Tp fa fn bx K mg) {X : Cx} {W : WX} (d : JD P w K mg base nm_l_bag (defScope (top 45)) vw_l_bag 1 X W) : JB X W (defBody (top 45)) t_l_bag :=
  jb_cons (js_set d.toJC 2 rfl (.inl (d.toJC.sC.loc 2 (mm 2) _ rfl)) (je_tup (ja_cons (je_int) (ja_cons (je_int) (ja_cons (je_int) (ja_cons (je_int) (ja_cons (je_int) (ja_cons (je_int) (ja_cons (je_int) (ja_cons (je_int) (ja_cons (je_int) (ja_nil)))))))))))) (jb_cons (js_set d.toJC 3 rfl (.inl (d.toJC.sC.loc 3 (mm 3) _ rfl)) (je_call d.toJC (Tj_l_cell_at T) (by decide) (mm 0) (ja_cons (jv d.toJC 0 (mm 0) rfl) (ja_cons (jv d.toJC 1 (mm 1) rfl) (ja_nil))))) (jb_cons (js_set d.toJC 4 rfl (.inl (d.toJC.sC.loc 4 (mm 4) _ rfl)) (je_op opD_add (je_op opD_mul (je_int) (jv d.toJC 1 (mm 1) rfl)) (je_int))) (jb_cons (js_for d (ji_r1 d.toJC (mm 1) (T.free 0) (ja_cons (je_int) (ja_nil))) (jg_name d.toJC 5 rfl (.inl (d.toJC.sC.loc 5 (mm 5) _ rfl))) (jb_cons (js_set d.toJC 6 rfl (.inl (d.toJC.sC.loc 6 (mm 6) _ rfl)) (je_op opD_add (je_op opD_add (je_op opD_mod (je_call d.toJC (Tj_l_cell_at T) (by decide) (mm 0) (ja_cons (jv d.toJC 0 (mm 0) rfl) (ja_cons (je_op opD_add (jv d.toJC 1 (mm 1) rfl) (jv d.toJC 5 (mm 5) rfl)) (ja_nil)))) (je_op opD_pow (je_int) (je_int))) (je_op opD_mul (je_int) (jv d.toJC 5 (mm 5) rfl))) (je_int))) (jb_one (js_set d.toJC 4 rfl (.inl (d.toJC.sC.loc 4 (mm 4) _ rfl)) (je_op opD_mod (je_op opD_add (je_op opD_mul (jv d.toJC 4 (mm 4) rfl) (je_int)) (je_op opD_mod (je_op opD_pow (jv d.toJC 6 (mm 6) rfl) (je_int)) (je_ix (jv d.toJC 2 (mm 2) rfl) (jv d.toJC 5 (mm 5) rfl)))) (je_int)))))) (jb_cons (js_if (jt_cmp opD_lt (jv d.toJC 3 (mm 3) rfl) (je_op opD_pow (je_int) (je_int)) rfl) (jb_one (js_set d.toJC 3 rfl (.inl (d.toJC.sC.loc 3 (mm 3) _ rfl)) (je_int))) (jb_nil)) (jb_one (js_ret (je_lstR (ja_cons (jv d.toJC 3 (mm 3) rfl) (ja_cons (je_op opD_add (jv d.toJC 4 (mm 4) rfl) (je_int)) (ja_nil))))))))))
theorem Tj_l_bag (T : Tp fa fn bx K mg) : JF P w K mg base "_law_bag" 2 [] (fun ds _ => ds) 2 m_l_bag := by
  obtain ⟨fd, F⟩ := T.sy.def_ 1 (d := d_l_bag) rfl
  exact jf_mkN F fs_l_bag sc_l_bag (T.glo 3) ⟨rfl, by decide, by decide⟩ (fun _ _ _ _ _ _ us hl => match us, hl with | [_, _], _ => rfl) (fun X W d => body_l_bag T d)
theorem body_l_take (T : Tp fa fn bx K mg) {X : Cx} {W : WX} (d : JD P w K mg base nm_l_take (defScope (top 46)) vw_l_take 0 X W) : JB X W (defBody (top 46)) t_l_take :=
  jb_cons (js_if (jt_cmp opD_gt (je_ix (jv d.toJC 0 (mm 0) rfl) (je_int)) (je_int) rfl) (jb_cons (js_set d.toJC 2 rfl (.inl (d.toJC.sC.loc 2 (mm 2) _ rfl)) (je_op opD_mod (je_ix (jv d.toJC 0 (mm 0) rfl) (je_int)) (jv d.toJC 1 (mm 1) rfl))) (jb_cons (js_sub (jv d.toJC 0 (mm 0) rfl) (je_int) (je_op opD_div (je_ix (jv d.toJC 0 (mm 0) rfl) (je_int)) (jv d.toJC 1 (mm 1) rfl))) (jb_one (js_ret (jv d.toJC 2 (mm 2) rfl))))) (jb_nil)) (jb_cons (js_sub (jv d.toJC 0 (mm 0) rfl) (je_int) (je_op opD_mod (je_op opD_mul (je_ix (jv d.toJC 0 (mm 0) rfl) (je_int)) (je_int)) (je_int))) (jb_one (js_ret (je_op opD_mod (je_op opD_mod (je_op opD_mod (je_op opD_pow (je_ix (jv d.toJC 0 (mm 0) rfl) (je_int)) (je_int)) (je_int)) (je_int)) (jv d.toJC 1 (mm 1) rfl)))))
theorem Tj_l_take (T : Tp fa fn bx K mg) : JF P w K mg base "_law_take" 2 [] (fun ds _ => ds) 1 m_l_take := by
  obtain ⟨fd, F⟩ := T.sy.def_ 2 (d := d_l_take) rfl
  exact jf_mkN F fs_l_take sc_l_take (T.glo 6) ⟨rfl, by decide, by decide⟩ (fun _ _ _ _ _ _ us hl => match us, hl with | [_, _], _ => rfl) (fun X W d => body_l_take T d)
theorem body_l_point (T : Tp fa fn bx K mg) {X : Cx} {W : WX} (d : JD P w K mg base nm_l_point (defScope (top 47)) vw_l_point 1 X W) : JB X W (defBody (top 47)) t_l_point :=
  jb_one (js_ret (je_tup (ja_cons (je_op opD_sub (je_call d.toJC (Tj_l_take T) (by decide) (mm 0) (ja_cons (jv d.toJC 0 (mm 0) rfl) (ja_cons (je_op opD_add (je_op opD_mul (je_int) (jv d.toJC 1 (mm 1) rfl)) (je_int)) (ja_nil)))) (jv d.toJC 1 (mm 1) rfl)) (ja_cons (je_op opD_sub (je_call d.toJC (Tj_l_take T) (by decide) (mm 0) (ja_cons (jv d.toJC 0 (mm 0) rfl) (ja_cons (je_op opD_add (je_op opD_mul (je_int) (jv d.toJC 1 (mm 1) rfl)) (je_int)) (ja_nil)))) (jv d.toJC 1 (mm 1) rfl)) (ja_nil)))))
theorem Tj_l_point (T : Tp fa fn bx K mg) : JF P w K mg base "_law_point" 2 [] (fun ds _ => ds) 2 m_l_point := by
  obtain ⟨fd, F⟩ := T.sy.def_ 3 (d := d_l_point) rfl
  exact jf_mkN F fs_l_point sc_l_point (T.glo 12) ⟨rfl, by decide, by decide⟩ (fun _ _ _ _ _ _ us hl => match us, hl with | [_, _], _ => rfl) (fun X W d => body_l_point T d)
theorem body_l_turned (T : Tp fa fn bx K mg) {X : Cx} {W : WX} (d : JD P w K mg base nm_l_turned (defScope (top 48)) vw_l_turned 0 X W) : JB X W (defBody (top 48)) t_l_turned :=
  jb_cons (js_asg (jv d.toJC 0 (mm 0) rfl) (jg_tup d.toJC.calm (jgs_cons (jg_name d.toJC 2 rfl (.inl (d.toJC.sC.loc 2 (mm 2) _ rfl))) (jgs_cons (jg_name d.toJC 3 rfl (.inl (d.toJC.sC.loc 3 (mm 3) _ rfl))) (jgs_nil))))) (jb_cons (js_for d (ji_r1 d.toJC (mm 0) (T.free 0) (ja_cons (jv d.toJC 1 (mm 1) rfl) (ja_nil))) (jg_name d.toJC 4 rfl (.inl (d.toJC.sC.loc 4 (mm 4) _ rfl))) (jb_one (js_par d.toJC 2 3 rfl rfl (by decide) (d.toJC.sC.loc 2 (mm 2) _ rfl) (d.toJC.sC.loc 3 (mm 3) _ rfl) (ja_cons (je_op opD_sub (je_int) (jv d.toJC 3 (mm 3) rfl)) (ja_cons (jv d.toJC 2 (mm 2) rfl) (ja_nil))) (sw2 d.toJC.kd (by rw [d.toJC.ss]; exact (d.toJC.sC.loc 2 (mm 2) _ rfl)) (by rw [d.toJC.ss]; exact (d.toJC.sC.loc 3 (mm 3) _ rfl)) rfl (by decide +kernel) rfl rfl rfl)))) (jb_one (js_ret (je_tup (ja_cons (jv d.toJC 2 (mm 2) rfl) (ja_cons (jv d.toJC 3 (mm 3) rfl) (ja_nil)))))))
theorem Tj_l_turned (T : Tp fa fn bx K mg) : JF P w K mg base "_law_turned" 2 [] (fun ds _ => ds) 1 m_l_turned := by
  obtain ⟨fd, F⟩ := T.sy.def_ 4 (d := d_l_turned) rfl
  exact jf_mkN F fs_l_turned sc_l_turned (T.glo 13) ⟨rfl, by decide, by decide⟩ (fun _ _ _ _ _ _ us hl => match us, hl with | [_, _], _ => rfl) (fun X W d => body_l_turned T d)
theorem body_l_added (T : Tp fa fn bx K mg) {X : Cx} {W : WX} (d : JD P w K mg base nm_l_added (defScope (top 49)) vw_l_added 0 X W) : JB X W (defBody (top 49)) t_l_added :=
  jb_one (js_ret (je_tup (ja_cons (je_op opD_add (je_ix (jv d.toJC 0 (mm 0) rfl) (je_int)) (je_ix (jv d.toJC 1 (mm 1) rfl) (je_int))) (ja_cons (je_op opD_add (je_ix (jv d.toJC 0 (mm 0) rfl) (je_int)) (je_ix (jv d.toJC 1 (mm 1) rfl) (je_int))) (ja_nil)))))
theorem Tj_l_added (T : Tp fa fn bx K mg) : JF P w K mg base "_law_added" 2 [] (fun ds _ => ds) 1 m_l_added := by
  obtain ⟨fd, F⟩ := T.sy.def_ 5 (d := d_l_added) rfl
  exact jf_mkN F fs_l_added sc_l_added (T.glo 14) ⟨rfl, by decide, by decide⟩ (fun _ _ _ _ _ _ us hl => match us, hl with | [_, _], _ => rfl) (fun X W d => body_l_added T d)
theorem body_l_thing (T : Tp fa fn bx K mg) {X : Cx} {W : WX} (d : JD P w K mg base nm_l_thing (defScope (top 50)) vw_l_thing 2 X W) : JB X W (defBody (top 50)) t_l_thing :=
  jb_cons (js_par d.toJC 2 3 rfl rfl (by decide) (d.toJC.sC.loc 2 (mm 2) _ rfl) (d.toJC.sC.loc 3 (mm 3) _ rfl) (ja_cons (je_call d.toJC (Tj_l_take T) (by decide) (mm 0) (ja_cons (jv d.toJC 0 (mm 0) rfl) (ja_cons (je_int) (ja_nil)))) (ja_cons (je_call d.toJC (Tj_l_point T) (by decide) (mm 1) (ja_cons (jv d.toJC 0 (mm 0) rfl) (ja_cons (jv d.toJC 1 (mm 1) rfl) (ja_nil)))) (ja_nil))) (sw2 d.toJC.kd (by rw [d.toJC.ss]; exact (d.toJC.sC.loc 2 (mm 2) _ rfl)) (by rw [d.toJC.ss]; exact (d.toJC.sC.loc 3 (mm 3) _ rfl)) rfl (by decide +kernel) rfl rfl rfl)) (jb_cons (js_if (jt_cmp opD_lt (jv d.toJC 2 (mm 2) rfl) (je_int) rfl) (jb_one (js_ret (je_tup (ja_cons (je_str) (ja_cons (jv d.toJC 3 (mm 3) rfl) (ja_nil)))))) (jb_nil)) (jb_cons (js_asg (je_ix (je_lst (ja_cons (je_tup (ja_cons (je_int) (ja_cons (je_int) (ja_nil)))) (ja_cons (je_tup (ja_cons (je_int) (ja_cons (je_int) (ja_nil)))) (ja_cons (je_tup (ja_cons (je_int) (ja_cons (je_int) (ja_nil)))) (ja_cons (je_tup (ja_cons (je_int) (ja_cons (je_int) (ja_nil)))) (ja_cons (je_tup (ja_cons (je_int) (ja_cons (je_int) (ja_nil)))) (ja_cons (je_tup (ja_cons (je_int) (ja_cons (je_int) (ja_nil)))) (ja_cons (je_tup (ja_cons (je_int) (ja_cons (je_int) (ja_nil)))) (ja_cons (je_tup (ja_cons (je_int) (ja_cons (je_int) (ja_nil)))) (ja_nil)))))))))) (je_call d.toJC (Tj_l_take T) (by decide) (mm 0) (ja_cons (jv d.toJC 0 (mm 0) rfl) (ja_cons (je_int) (ja_nil))))) (jg_tup d.toJC.calm (jgs_cons (jg_name d.toJC 4 rfl (.inl (d.toJC.sC.loc 4 (mm 4) _ rfl))) (jgs_cons (jg_name d.toJC 5 rfl (.inl (d.toJC.sC.loc 5 (mm 5) _ rfl))) (jgs_nil))))) (jb_cons (js_par d.toJC 6 7 rfl rfl (by decide) (d.toJC.sC.loc 6 (mm 6) _ rfl) (d.toJC.sC.loc 7 (mm 7) _ rfl) (ja_cons (je_call d.toJC (Tj_l_take T) (by decide) (mm 0) (ja_cons (jv d.toJC 0 (mm 0) rfl) (ja_cons (je_int) (ja_nil)))) (ja_cons (je_op opD_add (je_int) (je_call d.toJC (Tj_l_take T) (by decide) (mm 0) (ja_cons (jv d.toJC 0 (mm 0) rfl) (ja_cons (je_ix (je_lst (ja_cons (je_int) (ja_cons (je_int) (ja_nil)))) (je_call d.toJC (Tj_l_take T) (by decide) (mm 0) (ja_cons (jv d.toJC 0 (mm 0) rfl) (ja_cons (je_int) (ja_nil))))) (ja_nil))))) (ja_nil))) (sw2 d.toJC.kd (by rw [d.toJC.ss]; exact (d.toJC.sC.loc 6 (mm 6) _ rfl)) (by rw [d.toJC.ss]; exact (d.toJC.sC.loc 7 (mm 7) _ rfl)) rfl (by decide +kernel) rfl rfl rfl)) (jb_cons (js_set d.toJC 8 rfl (.inl (d.toJC.sC.loc 8 (mm 8) _ rfl)) (je_call d.toJC (Tj_l_turned T) (by decide) (mm 2) (ja_cons (je_tup (ja_cons (je_op opD_mul (jv d.toJC 4 (mm 4) rfl) (jv d.toJC 7 (mm 7) rfl)) (ja_cons (je_op opD_mul (jv d.toJC 5 (mm 5) rfl) (jv d.toJC 7 (mm 7) rfl)) (ja_nil)))) (ja_cons (jv d.toJC 6 (mm 6) rfl) (ja_nil))))) (jb_cons (js_if (jt_cmp opD_lt (jv d.toJC 2 (mm 2) rfl) (je_int) rfl) (jb_one (js_ret (je_tup (ja_cons (je_str) (ja_cons (jv d.toJC 3 (mm 3) rfl) (ja_cons (je_call d.toJC (Tj_l_added T) (by decide) (mm 3) (ja_cons (jv d.toJC 3 (mm 3) rfl) (ja_cons (jv d.toJC 8 (mm 8) rfl) (ja_nil)))) (ja_nil))))))) (jb_nil)) (jb_cons (js_par d.toJC 9 10 rfl rfl (by decide) (d.toJC.sC.loc 9 (mm 9) _ rfl) (d.toJC.sC.loc 10 (mm 10) _ rfl) (ja_cons (je_tup (ja_cons (je_op opD_mul (jv d.toJC 4 (mm 4) rfl) (jv d.toJC 7 (mm 7) rfl)) (ja_cons (je_op opD_mul (jv d.toJC 5 (mm 5) rfl) (jv d.toJC 7 (mm 7) rfl)) (ja_nil)))) (ja_cons (je_tup (ja_cons (je_op opD_sub (je_int) (je_op opD_mul (jv d.toJC 4 (mm 4) rfl) (jv d.toJC 7 (mm 7) rfl))) (ja_cons (je_op opD_mul (jv d.toJC 5 (mm 5) rfl) (jv d.toJC 7 (mm 7) rfl)) (ja_nil)))) (ja_nil))) (sw2 d.toJC.kd (by rw [d.toJC.ss]; exact (d.toJC.sC.loc 9 (mm 9) _ rfl)) (by rw [d.toJC.ss]; exact (d.toJC.sC.loc 10 (mm 10) _ rfl)) rfl (by decide +kernel) rfl rfl rfl)) (jb_cons (js_set d.toJC 11 rfl (.inl (d.toJC.sC.loc 11 (mm 11) _ rfl)) (je_call d.toJC (Tj_l_take T) (by decide) (mm 0) (ja_cons (jv d.toJC 0 (mm 0) rfl) (ja_cons (je_int) (ja_nil))))) (jb_cons (js_if (jt_w (jw_or (jt_cmp (opD_eq d.toJC.room) (jv d.toJC 11 (mm 11) rfl) (je_int) rfl) (jw_or1 (jt_cmp (opD_eq d.toJC.room) (jv d.toJC 5 (mm 5) rfl) (je_int) rfl)))) (jb_one (js_set d.toJC 10 rfl (.inl (d.toJC.sC.loc 10 (mm 10) _ rfl)) (je_tup (ja_cons (je_op opD_sub (je_int) (je_ix (jv d.toJC 9 (mm 9) rfl) (je_int))) (ja_cons (je_op opD_sub (je_int) (je_ix (jv d.toJC 9 (mm 9) rfl) (je_int))) (ja_nil)))))) (jb_one (js_if (jt_cmp (opD_eq d.toJC.room) (jv d.toJC 11 (mm 11) rfl) (je_int) rfl) (jb_one (js_par d.toJC 9 10 rfl rfl (by decide) (d.toJC.sC.loc 9 (mm 9) _ rfl) (d.toJC.sC.loc 10 (mm 10) _ rfl) (ja_cons (je_tup (ja_cons (je_op opD_mul (je_int) (jv d.toJC 7 (mm 7) rfl)) (ja_cons (je_int) (ja_nil)))) (ja_cons (je_tup (ja_cons (je_op opD_mul (je_int) (jv d.toJC 7 (mm 7) rfl)) (ja_cons (je_op opD_mul (je_int) (jv d.toJC 7 (mm 7) rfl)) (ja_nil)))) (ja_nil))) (sw2 d.toJC.kd (by rw [d.toJC.ss]; exact (d.toJC.sC.loc 9 (mm 9) _ rfl)) (by rw [d.toJC.ss]; exact (d.toJC.sC.loc 10 (mm 10) _ rfl)) rfl (by decide +kernel) rfl rfl rfl))) (jb_nil)))) (jb_one (js_ret (je_tup (ja_cons (je_str) (ja_cons (jv d.toJC 3 (mm 3) rfl) (ja_cons (je_call d.toJC (Tj_l_added T) (by decide) (mm 3) (ja_cons (jv d.toJC 3 (mm 3) rfl) (ja_cons (je_call d.toJC (Tj_l_turned T) (by decide) (mm 2) (ja_cons (jv d.toJC 9 (mm 9) rfl) (ja_cons (jv d.toJC 6 (mm 6) rfl) (ja_nil)))) (ja_nil)))) (ja_cons (je_call d.toJC (Tj_l_added T) (by decide) (mm 3) (ja_cons (jv d.toJC 3 (mm 3) rfl) (ja_cons (je_call d.toJC (Tj_l_turned T) (by decide) (mm 2) (ja_cons (jv d.toJC 10 (mm 10) rfl) (ja_cons (jv d.toJC 6 (mm 6) rfl) (ja_nil)))) (ja_nil)))) (ja_nil))))))))))))))))
theorem Tj_l_thing (T : Tp fa fn bx K mg) : JF P w K mg base "_law_thing" 2 [] (fun ds _ => ds) 3 m_l_thing := by
  obtain ⟨fd, F⟩ := T.sy.def_ 6 (d := d_l_thing) rfl
  exact jf_mkN F fs_l_thing sc_l_thing (T.glo 4) ⟨rfl, by decide, by decide⟩ (fun _ _ _ _ _ _ us hl => match us, hl with | [_, _], _ => rfl) (fun X W d => body_l_thing T d)
theorem body_l_low (T : Tp fa fn bx K mg) {X : Cx} {W : WX} (d : JD P w K mg base nm_l_low (defScope (top 51)) vw_l_low 0 X W) : JB X W (defBody (top 51)) t_l_low :=
  jb_cons (js_if (jt_cmp opD_lt (jv d.toJC 1 (mm 1) rfl) (je_int) rfl) (jb_one (js_par d.toJC 0 1 rfl rfl (by decide) (d.toJC.sC.loc 0 (mm 0) _ rfl) (d.toJC.sC.loc 1 (mm 1) _ rfl) (ja_cons (je_op opD_sub (je_int) (jv d.toJC 0 (mm 0) rfl)) (ja_cons (je_op opD_sub (je_int) (jv d.toJC 1 (mm 1) rfl)) (ja_nil))) (sw2 d.toJC.kd (by rw [d.toJC.ss]; exact (d.toJC.sC.loc 0 (mm 0) _ rfl)) (by rw [d.toJC.ss]; exact (d.toJC.sC.loc 1 (mm 1) _ rfl)) rfl (by decide +kernel) rfl rfl rfl))) (jb_nil)) (jb_cons (js_par d.toJC 2 3 rfl rfl (by decide) (d.toJC.sC.loc 2 (mm 2) _ rfl) (d.toJC.sC.loc 3 (mm 3) _ rfl) (ja_cons (je_callB d.toJC cd_abs (mm 0) (T.free 16) (by decide +kernel) (ja_cons (jv d.toJC 0 (mm 0) rfl) (ja_nil))) (ja_cons (jv d.toJC 1 (mm 1) rfl) (ja_nil))) (sw2 d.toJC.kd (by rw [d.toJC.ss]; exact (d.toJC.sC.loc 2 (mm 2) _ rfl)) (by rw [d.toJC.ss]; exact (d.toJC.sC.loc 3 (mm 3) _ rfl)) rfl (by decide +kernel) rfl rfl rfl)) (jb_cons (js_while d (jt_cmp opD_gt (jv d.toJC 2 (mm 2) rfl) (je_int) rfl) (jb_one (js_par d.toJC 2 3 rfl rfl (by decide) (d.toJC.sC.loc 2 (mm 2) _ rfl) (d.toJC.sC.loc 3 (mm 3) _ rfl) (ja_cons (je_op opD_mod (jv d.toJC 3 (mm 3) rfl) (jv d.toJC 2 (mm 2) rfl)) (ja_cons (jv d.toJC 2 (mm 2) rfl) (ja_nil))) (sw2 d.toJC.kd (by rw [d.toJC.ss]; exact (d.toJC.sC.loc 2 (mm 2) _ rfl)) (by rw [d.toJC.ss]; exact (d.toJC.sC.loc 3 (mm 3) _ rfl)) rfl (by decide +kernel) rfl rfl rfl)))) (jb_one (js_ret (je_tup (ja_cons (je_op opD_div (jv d.toJC 0 (mm 0) rfl) (jv d.toJC 3 (mm 3) rfl)) (ja_cons (je_op opD_div (jv d.toJC 1 (mm 1) rfl) (jv d.toJC 3 (mm 3) rfl)) (ja_nil))))))))
theorem Tj_l_low (T : Tp fa fn bx K mg) : JF P w K mg base "_law_low" 2 [] (fun ds _ => ds) 1 m_l_low := by
  obtain ⟨fd, F⟩ := T.sy.def_ 7 (d := d_l_low) rfl
  exact jf_mkN F fs_l_low sc_l_low (T.glo 15) ⟨rfl, by decide, by decide⟩ (fun _ _ _ _ _ _ us hl => match us, hl with | [_, _], _ => rfl) (fun X W d => body_l_low T d)
theorem body_l_plus (T : Tp fa fn bx K mg) {X : Cx} {W : WX} (d : JD P w K mg base nm_l_plus (defScope (top 52)) vw_l_plus 1 X W) : JB X W (defBody (top 52)) t_l_plus :=
  jb_one (js_ret (je_call d.toJC (Tj_l_low T) (by decide) (mm 0) (ja_cons (je_op opD_add (je_op opD_mul (je_ix (jv d.toJC 0 (mm 0) rfl) (je_int)) (je_ix (jv d.toJC 1 (mm 1) rfl) (je_int))) (je_op opD_mul (je_ix (jv d.toJC 1 (mm 1) rfl) (je_int)) (je_ix (jv d.toJC 0 (mm 0) rfl) (je_int)))) (ja_cons (je_op opD_mul (je_ix (jv d.toJC 0 (mm 0) rfl) (je_int)) (je_ix (jv d.toJC 1 (mm 1) rfl) (je_int))) (ja_nil)))))
theorem Tj_l_plus (T : Tp fa fn bx K mg) : JF P w K mg base "_law_plus" 2 [] (fun ds _ => ds) 2 m_l_plus := by
  obtain ⟨fd, F⟩ := T.sy.def_ 8 (d := d_l_plus) rfl
  exact jf_mkN F fs_l_plus sc_l_plus (T.glo 7) ⟨rfl, by decide, by decide⟩ (fun _ _ _ _ _ _ us hl => match us, hl with | [_, _], _ => rfl) (fun X W d => body_l_plus T d)
theorem body_l_root_of (T : Tp fa fn bx K mg) {X : Cx} {W : WX} (d : JD P w K mg base nm_l_root_of (defScope (top 55)) vw_l_root_of 0 X W) : JB X W (defBody (top 55)) t_l_root_of :=
  jb_cons (js_par d.toJC 1 2 rfl rfl (by decide) (d.toJC.sC.loc 1 (mm 1) _ rfl) (d.toJC.sC.loc 2 (mm 2) _ rfl) (ja_cons (je_int) (ja_cons (je_op opD_add (jv d.toJC 0 (mm 0) rfl) (je_int)) (ja_nil))) (sw2 d.toJC.kd (by rw [d.toJC.ss]; exact (d.toJC.sC.loc 1 (mm 1) _ rfl)) (by rw [d.toJC.ss]; exact (d.toJC.sC.loc 2 (mm 2) _ rfl)) rfl (by decide +kernel) rfl rfl rfl)) (jb_cons (js_while d (jt_cmp opD_gt (je_op opD_sub (jv d.toJC 2 (mm 2) rfl) (jv d.toJC 1 (mm 1) rfl)) (je_int) rfl) (jb_cons (js_set d.toJC 3 rfl (.inl (d.toJC.sC.loc 3 (mm 3) _ rfl)) (je_op opD_div (je_op opD_add (jv d.toJC 1 (mm 1) rfl) (jv d.toJC 2 (mm 2) rfl)) (je_int))) (jb_one (js_if (jt_cmp opD_le (je_op opD_mul (jv d.toJC 3 (mm 3) rfl) (jv d.toJC 3 (mm 3) rfl)) (jv d.toJC 0 (mm 0) rfl) rfl) (jb_one (js_set d.toJC 1 rfl (.inl (d.toJC.sC.loc 1 (mm 1) _ rfl)) (jv d.toJC 3 (mm 3) rfl))) (jb_one (js_set d.toJC 2 rfl (.inl (d.toJC.sC.loc 2 (mm 2) _ rfl)) (jv d.toJC 3 (mm 3) rfl))))))) (jb_one (js_ret (jv d.toJC 1 (mm 1) rfl))))
theorem Tj_l_root_of (T : Tp fa fn bx K mg) : JF P w K mg base "_law_root_of" 1 [] (fun ds _ => ds) 1 m_l_root_of := by
  obtain ⟨fd, F⟩ := T.sy.def_ 9 (d := d_l_root_of) rfl
  exact jf_mkN F fs_l_root_of sc_l_root_of (T.glo 21) ⟨rfl, by decide, by decide⟩ (fun _ _ _ _ _ _ us hl => match us, hl with | [_], _ => rfl) (fun X W d => body_l_root_of T d)
theorem body_l_lowest (T : Tp fa fn bx K mg) {X : Cx} {W : WX} (d : JD P w K mg base nm_l_lowest (defScope (top 56)) vw_l_lowest 0 X W) : JB X W (defBody (top 56)) t_l_lowest :=
  jb_cons (js_par d.toJC 2 3 rfl rfl (by decide) (d.toJC.sC.loc 2 (mm 2) _ rfl) (d.toJC.sC.loc 3 (mm 3) _ rfl) (ja_cons (je_callB d.toJC cd_abs (mm 0) (T.free 16) (by decide +kernel) (ja_cons (jv d.toJC 0 (mm 0) rfl) (ja_nil))) (ja_cons (je_callB d.toJC cd_abs (mm 0) (T.free 16) (by decide +kernel) (ja_cons (jv d.toJC 1 (mm 1) rfl) (ja_nil))) (ja_nil))) (sw2 d.toJC.kd (by rw [d.toJC.ss]; exact (d.toJC.sC.loc 2 (mm 2) _ rfl)) (by rw [d.toJC.ss]; exact (d.toJC.sC.loc 3 (mm 3) _ rfl)) rfl (by decide +kernel) rfl rfl rfl)) (jb_cons (js_while d (jt_cmp opD_gt (jv d.toJC 3 (mm 3) rfl) (je_int) rfl) (jb_one (js_par d.toJC 2 3 rfl rfl (by decide) (d.toJC.sC.loc 2 (mm 2) _ rfl) (d.toJC.sC.loc 3 (mm 3) _ rfl) (ja_cons (jv d.toJC 3 (mm 3) rfl) (ja_cons (je_op opD_mod (jv d.toJC 2 (mm 2) rfl) (jv d.toJC 3 (mm 3) rfl)) (ja_nil))) (sw2 d.toJC.kd (by rw [d.toJC.ss]; exact (d.toJC.sC.loc 2 (mm 2) _ rfl)) (by rw [d.toJC.ss]; exact (d.toJC.sC.loc 3 (mm 3) _ rfl)) rfl (by decide +kernel) rfl rfl rfl)))) (jb_one (js_ret (je_tup (ja_cons (je_op opD_div (jv d.toJC 0 (mm 0) rfl) (jv d.toJC 2 (mm 2) rfl)) (ja_cons (je_op opD_div (jv d.toJC 1 (mm 1) rfl) (jv d.toJC 2 (mm 2) rfl)) (ja_nil)))))))
theorem Tj_l_lowest (T : Tp fa fn bx K mg) : JF P w K mg base "_law_lowest" 2 [] (fun ds _ => ds) 1 m_l_lowest := by
  obtain ⟨fd, F⟩ := T.sy.def_ 10 (d := d_l_lowest) rfl
  exact jf_mkN F fs_l_lowest sc_l_lowest (T.glo 20) ⟨rfl, by decide, by decide⟩ (fun _ _ _ _ _ _ us hl => match us, hl with | [_, _], _ => rfl) (fun X W d => body_l_lowest T d)
theorem body_l_right (T : Tp fa fn bx K mg) {X : Cx} {W : WX} (d : JD P w K mg base nm_l_right (defScope (top 57)) vw_l_right 1 X W) : JB X W (defBody (top 57)) t_l_right :=
  jb_one (js_ret (je_call d.toJC (Tj_l_lowest T) (by decide) (mm 0) (ja_cons (je_op opD_sub (je_ix (jv d.toJC 1 (mm 1) rfl) (je_int)) (je_ix (jv d.toJC 0 (mm 0) rfl) (je_int))) (ja_cons (je_op opD_sub (je_ix (jv d.toJC 0 (mm 0) rfl) (je_int)) (je_ix (jv d.toJC 1 (mm 1) rfl) (je_int))) (ja_nil)))))
theorem Tj_l_right (T : Tp fa fn bx K mg) : JF P w K mg base "_law_right" 2 [] (fun ds _ => ds) 2 m_l_right := by
  obtain ⟨fd, F⟩ := T.sy.def_ 11 (d := d_l_right) rfl
  exact jf_mkN F fs_l_right sc_l_right (T.glo 19) ⟨rfl, by decide, by decide⟩ (fun _ _ _ _ _ _ us hl => match us, hl with | [_, _], _ => rfl) (fun X W d => body_l_right T d)
theorem body_l_faces (T : Tp fa fn bx K mg) {X : Cx} {W : WX} (d : JD P w K mg base nm_l_faces (defScope (top 58)) vw_l_faces 2 X W) : JB X W (defBody (top 58)) t_l_faces :=
  jb_cons (js_if (jt_cmp (opD_eq d.toJC.room) (je_ix (jv d.toJC 0 (mm 0) rfl) (je_int)) (je_str) rfl) (jb_one (js_ret (je_tup (ja_cons (je_tup (ja_cons (je_str) (ja_cons (je_ix (jv d.toJC 0 (mm 0) rfl) (je_int)) (ja_cons (je_int) (ja_cons (je_tup (ja_cons (je_int) (ja_cons (je_int) (ja_nil)))) (ja_cons (je_tup (ja_cons (je_int) (ja_cons (je_int) (ja_nil)))) (ja_nil))))))) (ja_nil))))) (jb_nil)) (jb_cons (js_par d.toJC 1 2 rfl rfl (by decide) (d.toJC.sC.loc 1 (mm 1) _ rfl) (d.toJC.sC.loc 2 (mm 2) _ rfl) (ja_cons (je_ix (jv d.toJC 0 (mm 0) rfl) (je_neg (je_int))) (ja_cons (je_ix (jv d.toJC 0 (mm 0) rfl) (je_neg (je_int))) (ja_nil))) (sw2 d.toJC.kd (by rw [d.toJC.ss]; exact (d.toJC.sC.loc 1 (mm 1) _ rfl)) (by rw [d.toJC.ss]; exact (d.toJC.sC.loc 2 (mm 2) _ rfl)) rfl (by decide +kernel) rfl rfl rfl)) (jb_cons (js_set d.toJC 3 rfl (.inl (d.toJC.sC.loc 3 (mm 3) _ rfl)) (je_call d.toJC (Tj_l_right T) (by decide) (mm 0) (ja_cons (jv d.toJC 2 (mm 2) rfl) (ja_cons (jv d.toJC 1 (mm 1) rfl) (ja_nil))))) (jb_cons (js_if (jt_cmp (opD_eq d.toJC.room) (je_ix (jv d.toJC 0 (mm 0) rfl) (je_int)) (je_str) rfl) (jb_cons (js_set d.toJC 4 rfl (.inl (d.toJC.sC.loc 4 (mm 4) _ rfl)) (je_call d.toJC (Tj_l_right T) (by decide) (mm 0) (ja_cons (jv d.toJC 1 (mm 1) rfl) (ja_cons (jv d.toJC 2 (mm 2) rfl) (ja_nil))))) (jb_one (js_ret (je_tup (ja_cons (je_tup (ja_cons (je_str) (ja_cons (jv d.toJC 1 (mm 1) rfl) (ja_cons (jv d.toJC 2 (mm 2) rfl) (ja_nil))))) (ja_cons (je_tup (ja_cons (je_str) (ja_cons (jv d.toJC 2 (mm 2) rfl) (ja_cons (je_int) (ja_cons (jv d.toJC 4 (mm 4) rfl) (ja_cons (jv d.toJC 3 (mm 3) rfl) (ja_nil))))))) (ja_cons (je_tup (ja_cons (je_str) (ja_cons (jv d.toJC 2 (mm 2) rfl) (ja_cons (jv d.toJC 1 (mm 1) rfl) (ja_nil))))) (ja_cons (je_tup (ja_cons (je_str) (ja_cons (jv d.toJC 1 (mm 1) rfl) (ja_cons (je_int) (ja_cons (jv d.toJC 3 (mm 3) rfl) (ja_cons (jv d.toJC 4 (mm 4) rfl) (ja_nil))))))) (ja_nil))))))))) (jb_nil)) (jb_cons (js_asg (je_ix (jv d.toJC 0 (mm 0) rfl) (je_int)) (jg_tup d.toJC.calm (jgs_cons (jg_name d.toJC 5 rfl (.inl (d.toJC.sC.loc 5 (mm 5) _ rfl))) (jgs_cons (jg_name d.toJC 6 rfl (.inl (d.toJC.sC.loc 6 (mm 6) _ rfl))) (jgs_nil))))) (jb_cons (js_par d.toJC 7 8 rfl rfl (by decide) (d.toJC.sC.loc 7 (mm 7) _ rfl) (d.toJC.sC.loc 8 (mm 8) _ rfl) (ja_cons (je_call d.toJC (Tj_l_lowest T) (by decide) (mm 1) (ja_cons (je_op opD_sub (je_ix (jv d.toJC 1 (mm 1) rfl) (je_int)) (jv d.toJC 5 (mm 5) rfl)) (ja_cons (je_op opD_sub (je_ix (jv d.toJC 1 (mm 1) rfl) (je_int)) (jv d.toJC 6 (mm 6) rfl)) (ja_nil)))) (ja_cons (je_call d.toJC (Tj_l_lowest T) (by decide) (mm 1) (ja_cons (je_op opD_sub (je_ix (jv d.toJC 2 (mm 2) rfl) (je_int)) (jv d.toJC 5 (mm 5) rfl)) (ja_cons (je_op opD_sub (je_ix (jv d.toJC 2 (mm 2) rfl) (je_int)) (jv d.toJC 6 (mm 6) rfl)) (ja_nil)))) (ja_nil))) (sw2 d.toJC.kd (by rw [d.toJC.ss]; exact (d.toJC.sC.loc 7 (mm 7) _ rfl)) (by rw [d.toJC.ss]; exact (d.toJC.sC.loc 8 (mm 8) _ rfl)) rfl (by decide +kernel) rfl rfl rfl)) (jb_cons (js_set d.toJC 9 rfl (.inl (d.toJC.sC.loc 9 (mm 9) _ rfl)) (je_call d.toJC (Tj_l_root_of T) (by decide) (mm 2) (ja_cons (je_op opD_add (je_op opD_mul (je_op opD_sub (je_ix (jv d.toJC 1 (mm 1) rfl) (je_int)) (jv d.toJC 5 (mm 5) rfl)) (je_op opD_sub (je_ix (jv d.toJC 1 (mm 1) rfl) (je_int)) (jv d.toJC 5 (mm 5) rfl))) (je_op opD_mul (je_op opD_sub (je_ix (jv d.toJC 1 (mm 1) rfl) (je_int)) (jv d.toJC 6 (mm 6) rfl)) (je_op opD_sub (je_ix (jv d.toJC 1 (mm 1) rfl) (je_int)) (jv d.toJC 6 (mm 6) rfl)))) (ja_nil)))) (jb_cons (js_set d.toJC 10 rfl (.inl (d.toJC.sC.loc 10 (mm 10) _ rfl)) (je_tup (ja_cons (je_str) (ja_cons (je_ix (jv d.toJC 0 (mm 0) rfl) (je_int)) (ja_cons (jv d.toJC 9 (mm 9) rfl) (ja_cons (jv d.toJC 7 (mm 7) rfl) (ja_cons (jv d.toJC 8 (mm 8) rfl) (ja_nil)))))))) (jb_one (js_ret (je_tup (ja_cons (jv d.toJC 10 (mm 10) rfl) (ja_cons (je_tup (ja_cons (je_str) (ja_cons (jv d.toJC 2 (mm 2) rfl) (ja_cons (je_int) (ja_cons (jv d.toJC 8 (mm 8) rfl) (ja_cons (jv d.toJC 3 (mm 3) rfl) (ja_nil))))))) (ja_cons (je_tup (ja_cons (je_str) (ja_cons (jv d.toJC 2 (mm 2) rfl) (ja_cons (jv d.toJC 1 (mm 1) rfl) (ja_nil))))) (ja_cons (je_tup (ja_cons (je_str) (ja_cons (jv d.toJC 1 (mm 1) rfl) (ja_cons (je_int) (ja_cons (jv d.toJC 3 (mm 3) rfl) (ja_cons (jv d.toJC 7 (mm 7) rfl) (ja_nil))))))) (ja_nil)))))))))))))))
theorem Tj_l_faces (T : Tp fa fn bx K mg) : JF P w K mg base "_law_faces" 1 [] (fun ds _ => ds) 3 m_l_faces := by
  obtain ⟨fd, F⟩ := T.sy.def_ 12 (d := d_l_faces) rfl
  exact jf_mkN F fs_l_faces sc_l_faces (T.glo 17) ⟨rfl, by decide, by decide⟩ (fun _ _ _ _ _ _ us hl => match us, hl with | [_], _ => rfl) (fun X W d => body_l_faces T d)
theorem body_l_length (T : Tp fa fn bx K mg) {X : Cx} {W : WX} (d : JD P w K mg base nm_l_length (defScope (top 59)) vw_l_length 2 X W) : JB X W (defBody (top 59)) t_l_length :=
  jb_cons (js_if (jt_cmp (opD_eq d.toJC.room) (je_ix (jv d.toJC 0 (mm 0) rfl) (je_int)) (je_str) rfl) (jb_one (js_ret (je_tup (ja_cons (je_int) (ja_cons (je_int) (ja_nil)))))) (jb_nil)) (jb_cons (js_asg (je_tup (ja_cons (je_ix (jv d.toJC 0 (mm 0) rfl) (je_int)) (ja_cons (je_ix (jv d.toJC 0 (mm 0) rfl) (je_int)) (ja_nil)))) (jg_tup d.toJC.calm (jgs_cons (jg_tup d.toJC.calm (jgs_cons (jg_name d.toJC 1 rfl (.inl (d.toJC.sC.loc 1 (mm 1) _ rfl))) (jgs_cons (jg_name d.toJC 2 rfl (.inl (d.toJC.sC.loc 2 (mm 2) _ rfl))) (jgs_nil)))) (jgs_cons (jg_tup d.toJC.calm (jgs_cons (jg_name d.toJC 3 rfl (.inl (d.toJC.sC.loc 3 (mm 3) _ rfl))) (jgs_cons (jg_name d.toJC 4 rfl (.inl (d.toJC.sC.loc 4 (mm 4) _ rfl))) (jgs_nil)))) (jgs_nil)))) rfl (sw_n d.toJC.kd (.inl rfl) rfl rfl (mm 0) (fun _ => rfl))) (jb_cons (js_set d.toJC 5 rfl (.inl (d.toJC.sC.loc 5 (mm 5) _ rfl)) (je_op opD_mul (je_int) (je_callTy d.toJC cd_int (mm 0) (T.free 22) (by decide +kernel) (ja_cons (je_cmp (opD_eq d.toJC.room) (je_tup (ja_cons (jv d.toJC 1 (mm 1) rfl) (ja_cons (jv d.toJC 2 (mm 2) rfl) (ja_nil)))) (je_tup (ja_cons (jv d.toJC 3 (mm 3) rfl) (ja_cons (jv d.toJC 4 (mm 4) rfl) (ja_nil)))) rfl) (ja_nil))))) (jb_cons (js_while d (jt_w (jw_and (jt_cmp opD_lt (jv d.toJC 5 (mm 5) rfl) (je_int) rfl) (jw_and1 (jt_not (jt_w (jw_and (jt_cmp opD_ge (je_op opD_sub (je_op opD_mul (jv d.toJC 1 (mm 1) rfl) (jv d.toJC 4 (mm 4) rfl)) (je_op opD_mul (jv d.toJC 2 (mm 2) rfl) (jv d.toJC 3 (mm 3) rfl))) (je_int) rfl) (jw_and1 (jt_cmp opD_gt (je_op opD_add (je_op opD_mul (jv d.toJC 1 (mm 1) rfl) (jv d.toJC 3 (mm 3) rfl)) (je_op opD_mul (jv d.toJC 2 (mm 2) rfl) (jv d.toJC 4 (mm 4) rfl))) (je_int) rfl)))))))) (jb_one (js_par3 d.toJC 1 2 5 rfl rfl rfl (by decide) (by decide) (by decide) (d.toJC.sC.loc 1 (mm 1) _ rfl) (d.toJC.sC.loc 2 (mm 2) _ rfl) (d.toJC.sC.loc 5 (mm 5) _ rfl) (ja_cons (je_op opD_sub (je_int) (jv d.toJC 2 (mm 2) rfl)) (ja_cons (jv d.toJC 1 (mm 1) rfl) (ja_cons (je_op opD_add (jv d.toJC 5 (mm 5) rfl) (je_int)) (ja_nil)))) (sw3 d.toJC.kd (by rw [d.toJC.ss]; exact (d.toJC.sC.loc 1 (mm 1) _ rfl)) (by rw [d.toJC.ss]; exact (d.toJC.sC.loc 2 (mm 2) _ rfl)) (by rw [d.toJC.ss]; exact (d.toJC.sC.loc 5 (mm 5) _ rfl)) rfl rfl (by decide +kernel) (by decide +kernel) (by decide +kernel) rfl rfl rfl)))) (jb_cons (js_set d.toJC 6 rfl (.inl (d.toJC.sC.loc 6 (mm 6) _ rfl)) (je_call d.toJC (Tj_l_root_of T) (by decide) (mm 1) (ja_cons (je_op opD_mul (je_op opD_add (je_op opD_mul (jv d.toJC 1 (mm 1) rfl) (jv d.toJC 1 (mm 1) rfl)) (je_op opD_mul (jv d.toJC 2 (mm 2) rfl) (jv d.toJC 2 (mm 2) rfl))) (je_op opD_add (je_op opD_mul (jv d.toJC 3 (mm 3) rfl) (jv d.toJC 3 (mm 3) rfl)) (je_op opD_mul (jv d.toJC 4 (mm 4) rfl) (jv d.toJC 4 (mm 4) rfl)))) (ja_nil)))) (jb_one (js_ret (je_call d.toJC (Tj_l_plus T) (by decide) (mm 2) (ja_cons (je_tup (ja_cons (jv d.toJC 5 (mm 5) rfl) (ja_cons (je_int) (ja_nil)))) (ja_cons (je_call d.toJC (Tj_l_low T) (by decide) (mm 3) (ja_cons (je_op opD_sub (je_op opD_mul (jv d.toJC 1 (mm 1) rfl) (jv d.toJC 4 (mm 4) rfl)) (je_op opD_mul (jv d.toJC 2 (mm 2) rfl) (jv d.toJC 3 (mm 3) rfl))) (ja_cons (je_op opD_add (je_op opD_add (jv d.toJC 6 (mm 6) rfl) (je_op opD_mul (jv d.toJC 1 (mm 1) rfl) (jv d.toJC 3 (mm 3) rfl))) (je_op opD_mul (jv d.toJC 2 (mm 2) rfl) (jv d.toJC 4 (mm 4) rfl))) (ja_nil)))) (ja_nil))))))))))
theorem Tj_l_length (T : Tp fa fn bx K mg) : JF P w K mg base "_law_length" 1 [] (fun ds _ => ds) 3 m_l_length := by
  obtain ⟨fd, F⟩ := T.sy.def_ 13 (d := d_l_length) rfl
  exact jf_mkN F fs_l_length sc_l_length (T.glo 18) ⟨rfl, by decide, by decide⟩ (fun _ _ _ _ _ _ us hl => match us, hl with | [_], _ => rfl) (fun X W d => body_l_length T d)
theorem body_l_around (T : Tp fa fn bx K mg) {X : Cx} {W : WX} (d : JD P w K mg base nm_l_around (defScope (top 62)) vw_l_around 3 X W) : JB X W (defBody (top 62)) t_l_around :=
  jb_cons (js_set d.toJC 1 rfl (.inl (d.toJC.sC.loc 1 (mm 1) _ rfl)) (je_tup (ja_cons (je_int) (ja_cons (je_int) (ja_nil))))) (jb_cons (js_for d (ji_val (je_call d.toJC (Tj_l_faces T) (by decide) (mm 0) (ja_cons (jv d.toJC 0 (mm 0) rfl) (ja_nil)))) (jg_name d.toJC 2 rfl (.inl (d.toJC.sC.loc 2 (mm 2) _ rfl))) (jb_one (js_set d.toJC 1 rfl (.inl (d.toJC.sC.loc 1 (mm 1) _ rfl)) (je_call d.toJC (Tj_l_plus T) (by decide) (mm 1) (ja_cons (jv d.toJC 1 (mm 1) rfl) (ja_cons (je_call d.toJC (Tj_l_length T) (by decide) (mm 2) (ja_cons (jv d.toJC 2 (mm 2) rfl) (ja_nil))) (ja_nil))))))) (jb_one (js_ret (jv d.toJC 1 (mm 1) rfl))))
theorem Tj_l_around (T : Tp fa fn bx K mg) : JF P w K mg base "_law_around" 1 [] (fun ds _ => ds) 4 m_l_around := by
  obtain ⟨fd, F⟩ := T.sy.def_ 14 (d := d_l_around) rfl
  exact jf_mkN F fs_l_around sc_l_around (T.glo 5) ⟨rfl, by decide, by decide⟩ (fun _ _ _ _ _ _ us hl => match us, hl with | [_], _ => rfl) (fun X W d => body_l_around T d)
theorem body_common (T : Tp fa fn bx K mg) {X : Cx} {W : WX} (d : JD P w K mg base nm_common (defScope (top 11)) vw_common 0 X W) : JB X W (defBody (top 11)) t_common :=
  jb_cons (js_par d.toJC 0 1 rfl rfl (by decide) (d.toJC.sC.loc 0 (mm 0) _ rfl) (d.toJC.sC.loc 1 (mm 1) _ rfl) (ja_cons (je_callB d.toJC cd_abs (mm 0) (T.free 16) (by decide +kernel) (ja_cons (jv d.toJC 0 (mm 0) rfl) (ja_nil))) (ja_cons (je_callB d.toJC cd_abs (mm 0) (T.free 16) (by decide +kernel) (ja_cons (jv d.toJC 1 (mm 1) rfl) (ja_nil))) (ja_nil))) (sw2 d.toJC.kd (by rw [d.toJC.ss]; exact (d.toJC.sC.loc 0 (mm 0) _ rfl)) (by rw [d.toJC.ss]; exact (d.toJC.sC.loc 1 (mm 1) _ rfl)) rfl (by decide +kernel) rfl rfl rfl)) (jb_cons (js_while d (jt_cmp (opD_ne d.toJC.room) (jv d.toJC 1 (mm 1) rfl) (je_int) rfl) (jb_one (js_par d.toJC 0 1 rfl rfl (by decide) (d.toJC.sC.loc 0 (mm 0) _ rfl) (d.toJC.sC.loc 1 (mm 1) _ rfl) (ja_cons (jv d.toJC 1 (mm 1) rfl) (ja_cons (je_op opD_mod (jv d.toJC 0 (mm 0) rfl) (jv d.toJC 1 (mm 1) rfl)) (ja_nil))) (sw2 d.toJC.kd (by rw [d.toJC.ss]; exact (d.toJC.sC.loc 0 (mm 0) _ rfl)) (by rw [d.toJC.ss]; exact (d.toJC.sC.loc 1 (mm 1) _ rfl)) rfl (by decide +kernel) rfl rfl rfl)))) (jb_one (js_ret (jv d.toJC 0 (mm 0) rfl))))
theorem Tj_common (T : Tp fa fn bx K mg) : JF P w K mg base "common" 2 [] (fun ds _ => ds) 1 m_common := by
  obtain ⟨fd, F⟩ := T.sy.def_ 15 (d := d_common) rfl
  exact jf_mkN F fs_common sc_common (T.glo 45) ⟨rfl, by decide, by decide⟩ (fun _ _ _ _ _ _ us hl => match us, hl with | [_, _], _ => rfl) (fun X W d => body_common T d)
theorem body_frac (T : Tp fa fn bx K mg) {X : Cx} {W : WX} (d : JD P w K mg base nm_frac (defScope (top 12)) vw_frac 1 X W) : JB X W (defBody (top 12)) t_frac :=
  jb_cons (js_thru d (fun _ _ d => jb_one (js_set d.toJC 2 rfl (.inl (d.toJC.sC.loc 2 (mm 2) _ rfl)) (je_op opD_div (jv d.toJC 1 (mm 1) rfl) (je_callB d.toJC cd_abs (mm 0) (T.free 16) (by decide +kernel) (ja_cons (jv d.toJC 1 (mm 1) rfl) (ja_nil))))))) (jb_cons (js_set d.toJC 4 rfl (.inl (d.toJC.sC.loc 4 (mm 4) _ rfl)) (je_op opD_mul (je_call d.toJC (Tj_common T) (by decide) (mm 3) (ja_cons (jv d.toJC 0 (mm 0) rfl) (ja_cons (jv d.toJC 1 (mm 1) rfl) (ja_nil)))) (jv d.toJC 2 (mm 2) rfl))) (jb_one (js_ret (je_tup (ja_cons (je_op opD_div (jv d.toJC 0 (mm 0) rfl) (jv d.toJC 4 (mm 4) rfl)) (ja_cons (je_op opD_div (jv d.toJC 1 (mm 1) rfl) (jv d.toJC 4 (mm 4) rfl)) (ja_nil)))))))
theorem Tj_frac (T : Tp fa fn bx K mg) : JF P w K mg base "frac" 2 [] (fun ds _ => ds ++ []) 2 m_frac := by
  obtain ⟨fd, F⟩ := T.sy.def_ 16 (d := d_frac) rfl
  exact jf_mkF 2 1 [] F fs_frac sc_frac (T.glo 44) ⟨rfl, by decide, by decide⟩ (List.cons_ne_nil _ _) rfl (fun _ _ _ => .nil) (fun _ _ _ _ _ _ _ us its hl h2 => match us, its, hl, h2 with | [_, _], [_], _, _ => ⟨_, rfl, rfl⟩) (fun X W d => body_frac T d)
theorem body_minus (T : Tp fa fn bx K mg) {X : Cx} {W : WX} (d : JD P w K mg base nm_minus (defScope (top 14)) vw_minus 2 X W) : JB X W (defBody (top 14)) t_minus :=
  jb_one (js_ret (je_call d.toJC (Tj_frac T) (by decide) (mm 0) (ja_cons (je_op opD_sub (je_op opD_mul (je_ix (jv d.toJC 0 (mm 0) rfl) (je_int)) (je_ix (jv d.toJC 1 (mm 1) rfl) (je_int))) (je_op opD_mul (je_ix (jv d.toJC 1 (mm 1) rfl) (je_int)) (je_ix (jv d.toJC 0 (mm 0) rfl) (je_int)))) (ja_cons (je_op opD_mul (je_ix (jv d.toJC 0 (mm 0) rfl) (je_int)) (je_ix (jv d.toJC 1 (mm 1) rfl) (je_int))) (ja_nil)))))
theorem Tj_minus (T : Tp fa fn bx K mg) : JF P w K mg base "minus" 2 [] (fun ds _ => ds) 3 m_minus := by
  obtain ⟨fd, F⟩ := T.sy.def_ 17 (d := d_minus) rfl
  exact jf_mkN F fs_minus sc_minus (T.glo 42) ⟨rfl, by decide, by decide⟩ (fun _ _ _ _ _ _ us hl => match us, hl with | [_, _], _ => rfl) (fun X W d => body_minus T d)
theorem body_is_less (T : Tp fa fn bx K mg) {X : Cx} {W : WX} (d : JD P w K mg base nm_is_less (defScope (top 17)) vw_is_less 0 X W) : JB X W (defBody (top 17)) t_is_less :=
  jb_one (js_ret (je_cmp opD_lt (je_op opD_mul (je_ix (jv d.toJC 0 (mm 0) rfl) (je_int)) (je_ix (jv d.toJC 1 (mm 1) rfl) (je_int))) (je_op opD_mul (je_ix (jv d.toJC 1 (mm 1) rfl) (je_int)) (je_ix (jv d.toJC 0 (mm 0) rfl) (je_int))) rfl))
theorem Tj_is_less (T : Tp fa fn bx K mg) : JF P w K mg base "is_less" 2 [] (fun ds _ => ds) 1 m_is_less := by
  obtain ⟨fd, F⟩ := T.sy.def_ 18 (d := d_is_less) rfl
  exact jf_mkN F fs_is_less sc_is_less (T.glo 41) ⟨rfl, by decide, by decide⟩ (fun _ _ _ _ _ _ us hl => match us, hl with | [_, _], _ => rfl) (fun X W d => body_is_less T d)
theorem body_whole_root (T : Tp fa fn bx K mg) {X : Cx} {W : WX} (d : JD P w K mg base nm_whole_root (defScope (top 18)) vw_whole_root 0 X W) : JB X W (defBody (top 18)) t_whole_root :=
  jb_cons (js_if (jt_cmp (opD_eq d.toJC.room) (jv d.toJC 0 (mm 0) rfl) (je_int) rfl) (jb_one (js_ret (je_int))) (jb_nil)) (jb_cons (js_set d.toJC 1 rfl (.inl (d.toJC.sC.loc 1 (mm 1) _ rfl)) (je_op opD_shl (je_int) (je_op opD_div (je_op opD_add (je_bits (jv d.toJC 0 (mm 0) rfl)) (je_int)) (je_int)))) (jb_cons (js_while d (jt_cmp opD_gt (je_op opD_mul (jv d.toJC 1 (mm 1) rfl) (jv d.toJC 1 (mm 1) rfl)) (jv d.toJC 0 (mm 0) rfl) rfl) (jb_one (js_set d.toJC 1 rfl (.inl (d.toJC.sC.loc 1 (mm 1) _ rfl)) (je_op opD_div (je_op opD_add (jv d.toJC 1 (mm 1) rfl) (je_op opD_div (jv d.toJC 0 (mm 0) rfl) (jv d.toJC 1 (mm 1) rfl))) (je_int))))) (jb_one (js_ret (jv d.toJC 1 (mm 1) rfl)))))
theorem Tj_whole_root (T : Tp fa fn bx K mg) : JF P w K mg base "whole_root" 1 [] (fun ds _ => ds) 1 m_whole_root := by
  obtain ⟨fd, F⟩ := T.sy.def_ 19 (d := d_whole_root) rfl
  exact jf_mkN F fs_whole_root sc_whole_root (T.glo 50) ⟨rfl, by decide, by decide⟩ (fun _ _ _ _ _ _ us hl => match us, hl with | [_], _ => rfl) (fun X W d => body_whole_root T d)
theorem body_far_square (T : Tp fa fn bx K mg) {X : Cx} {W : WX} (d : JD P w K mg base nm_far_square (defScope (top 25)) vw_far_square 0 X W) : JB X W (defBody (top 25)) t_far_square :=
  jb_one (js_ret (je_op opD_add (je_op opD_pow (je_op opD_sub (je_ix (jv d.toJC 0 (mm 0) rfl) (je_int)) (je_ix (jv d.toJC 1 (mm 1) rfl) (je_int))) (je_int)) (je_op opD_pow (je_op opD_sub (je_ix (jv d.toJC 0 (mm 0) rfl) (je_int)) (je_ix (jv d.toJC 1 (mm 1) rfl) (je_int))) (je_int))))
theorem Tj_far_square (T : Tp fa fn bx K mg) : JF P w K mg base "far_square" 2 [] (fun ds _ => ds) 1 m_far_square := by
  obtain ⟨fd, F⟩ := T.sy.def_ 20 (d := d_far_square) rfl
  exact jf_mkN F fs_far_square sc_far_square (T.glo 49) ⟨rfl, by decide, by decide⟩ (fun _ _ _ _ _ _ us hl => match us, hl with | [_, _], _ => rfl) (fun X W d => body_far_square T d)
theorem body_step_from (T : Tp fa fn bx K mg) {X : Cx} {W : WX} (d : JD P w K mg base nm_step_from (defScope (top 28)) vw_step_from 0 X W) : JB X W (defBody (top 28)) t_step_from :=
  jb_one (js_ret (je_tup (ja_cons (je_op opD_sub (je_ix (jv d.toJC 0 (mm 0) rfl) (je_int)) (je_ix (jv d.toJC 1 (mm 1) rfl) (je_int))) (ja_cons (je_op opD_sub (je_ix (jv d.toJC 0 (mm 0) rfl) (je_int)) (je_ix (jv d.toJC 1 (mm 1) rfl) (je_int))) (ja_nil)))))
theorem Tj_step_from (T : Tp fa fn bx K mg) : JF P w K mg base "step_from" 2 [] (fun ds _ => ds) 1 m_step_from := by
  obtain ⟨fd, F⟩ := T.sy.def_ 21 (d := d_step_from) rfl
  exact jf_mkN F fs_step_from sc_step_from (T.glo 47) ⟨rfl, by decide, by decide⟩ (fun _ _ _ _ _ _ us hl => match us, hl with | [_, _], _ => rfl) (fun X W d => body_step_from T d)
theorem body_lowest (T : Tp fa fn bx K mg) {X : Cx} {W : WX} (d : JD P w K mg base nm_lowest (defScope (top 29)) vw_lowest 1 X W) : JB X W (defBody (top 29)) t_lowest :=
  jb_cons (js_set d.toJC 1 rfl (.inl (d.toJC.sC.loc 1 (mm 1) _ rfl)) (je_call d.toJC (Tj_common T) (by decide) (mm 0) (ja_cons (je_ix (jv d.toJC 0 (mm 0) rfl) (je_int)) (ja_cons (je_ix (jv d.toJC 0 (mm 0) rfl) (je_int)) (ja_nil))))) (jb_one (js_ret (je_tup (ja_cons (je_op opD_div (je_ix (jv d.toJC 0 (mm 0) rfl) (je_int)) (jv d.toJC 1 (mm 1) rfl)) (ja_cons (je_op opD_div (je_ix (jv d.toJC 0 (mm 0) rfl) (je_int)) (jv d.toJC 1 (mm 1) rfl)) (ja_nil))))))
theorem Tj_lowest (T : Tp fa fn bx K mg) : JF P w K mg base "lowest" 1 [] (fun ds _ => ds) 2 m_lowest := by
  obtain ⟨fd, F⟩ := T.sy.def_ 22 (d := d_lowest) rfl
  exact jf_mkN F fs_lowest sc_lowest (T.glo 48) ⟨rfl, by decide, by decide⟩ (fun _ _ _ _ _ _ us hl => match us, hl with | [_], _ => rfl) (fun X W d => body_lowest T d)
theorem body_outward (T : Tp fa fn bx K mg) {X : Cx} {W : WX} (d : JD P w K mg base nm_outward (defScope (top 30)) vw_outward 2 X W) : JB X W (defBody (top 30)) t_outward :=
  jb_cons (js_asg (je_call d.toJC (Tj_step_from T) (by decide) (mm 0) (ja_cons (jv d.toJC 1 (mm 1) rfl) (ja_cons (jv d.toJC 0 (mm 0) rfl) (ja_nil)))) (jg_tup d.toJC.calm (jgs_cons (jg_name d.toJC 2 rfl (.inl (d.toJC.sC.loc 2 (mm 2) _ rfl))) (jgs_cons (jg_name d.toJC 3 rfl (.inl (d.toJC.sC.loc 3 (mm 3) _ rfl))) (jgs_nil))))) (jb_one (js_ret (je_call d.toJC (Tj_lowest T) (by decide) (mm 1) (ja_cons (je_tup (ja_cons (jv d.toJC 3 (mm 3) rfl) (ja_cons (je_op opD_sub (je_int) (jv d.toJC 2 (mm 2) rfl)) (ja_nil)))) (ja_nil)))))
theorem Tj_outward (T : Tp fa fn bx K mg) : JF P w K mg base "outward" 2 [] (fun ds _ => ds) 3 m_outward := by
  obtain ⟨fd, F⟩ := T.sy.def_ 23 (d := d_outward) rfl
  exact jf_mkN F fs_outward sc_outward (T.glo 46) ⟨rfl, by decide, by decide⟩ (fun _ _ _ _ _ _ us hl => match us, hl with | [_, _], _ => rfl) (fun X W d => body_outward T d)
theorem body_faces (T : Tp fa fn bx K mg) {X : Cx} {W : WX} (d : JD P w K mg base nm_faces (defScope (top 31)) vw_faces 3 X W) : JB X W (defBody (top 31)) t_faces :=
  jb_cons (js_star (i := 1) (aft := 0) d.toJC.calm (jv d.toJC 0 (mm 0) rfl) (jgs_cons (jg_name d.toJC 1 rfl (.inl (d.toJC.sC.loc 1 (mm 1) _ rfl))) (jgs_cons (jg_name d.toJC 2 rfl (.inl (d.toJC.sC.loc 2 (mm 2) _ rfl))) (jgs_nil)))) (jb_cons (js_if (jt_cmp (opD_eq d.toJC.room) (jv d.toJC 1 (mm 1) rfl) (je_str) rfl) (jb_one (js_ret (je_tup (ja_cons (je_tup (ja_cons (je_str) (ja_cons (je_ix (jv d.toJC 2 (mm 2) rfl) (je_int)) (ja_cons (je_int) (ja_cons (je_tup (ja_cons (je_int) (ja_cons (je_int) (ja_nil)))) (ja_cons (je_tup (ja_cons (je_int) (ja_cons (je_int) (ja_nil)))) (ja_nil))))))) (ja_nil))))) (jb_nil)) (jb_cons (js_star (i := 0) (aft := 2) d.toJC.calm (jv d.toJC 2 (mm 2) rfl) (jgs_cons (jg_name d.toJC 3 rfl (.inl (d.toJC.sC.loc 3 (mm 3) _ rfl))) (jgs_cons (jg_name d.toJC 4 rfl (.inl (d.toJC.sC.loc 4 (mm 4) _ rfl))) (jgs_cons (jg_name d.toJC 5 rfl (.inl (d.toJC.sC.loc 5 (mm 5) _ rfl))) (jgs_nil))))) (jb_cons (js_set d.toJC 6 rfl (.inl (d.toJC.sC.loc 6 (mm 6) _ rfl)) (je_call d.toJC (Tj_outward T) (by decide) (mm 0) (ja_cons (jv d.toJC 5 (mm 5) rfl) (ja_cons (jv d.toJC 4 (mm 4) rfl) (ja_nil))))) (jb_cons (js_if (jt_cmp (opD_eq d.toJC.room) (jv d.toJC 1 (mm 1) rfl) (je_str) rfl) (jb_cons (js_set d.toJC 7 rfl (.inl (d.toJC.sC.loc 7 (mm 7) _ rfl)) (je_call d.toJC (Tj_outward T) (by decide) (mm 0) (ja_cons (jv d.toJC 4 (mm 4) rfl) (ja_cons (jv d.toJC 5 (mm 5) rfl) (ja_nil))))) (jb_one (js_ret (je_tup (ja_cons (je_tup (ja_cons (je_str) (ja_cons (jv d.toJC 4 (mm 4) rfl) (ja_cons (jv d.toJC 5 (mm 5) rfl) (ja_nil))))) (ja_cons (je_tup (ja_cons (je_str) (ja_cons (jv d.toJC 5 (mm 5) rfl) (ja_cons (je_int) (ja_cons (jv d.toJC 7 (mm 7) rfl) (ja_cons (jv d.toJC 6 (mm 6) rfl) (ja_nil))))))) (ja_cons (je_tup (ja_cons (je_str) (ja_cons (jv d.toJC 5 (mm 5) rfl) (ja_cons (jv d.toJC 4 (mm 4) rfl) (ja_nil))))) (ja_cons (je_tup (ja_cons (je_str) (ja_cons (jv d.toJC 4 (mm 4) rfl) (ja_cons (je_int) (ja_cons (jv d.toJC 6 (mm 6) rfl) (ja_cons (jv d.toJC 7 (mm 7) rfl) (ja_nil))))))) (ja_nil))))))))) (jb_nil)) (jb_cons (js_set d.toJC 8 rfl (.inl (d.toJC.sC.loc 8 (mm 8) _ rfl)) (je_ix (jv d.toJC 3 (mm 3) rfl) (je_int))) (jb_cons (js_par d.toJC 9 10 rfl rfl (by decide) (d.toJC.sC.loc 9 (mm 9) _ rfl) (d.toJC.sC.loc 10 (mm 10) _ rfl) (ja_cons (je_call d.toJC (Tj_lowest T) (by decide) (mm 1) (ja_cons (je_call d.toJC (Tj_step_from T) (by decide) (mm 2) (ja_cons (jv d.toJC 4 (mm 4) rfl) (ja_cons (jv d.toJC 8 (mm 8) rfl) (ja_nil)))) (ja_nil))) (ja_cons (je_call d.toJC (Tj_lowest T) (by decide) (mm 1) (ja_cons (je_call d.toJC (Tj_step_from T) (by decide) (mm 2) (ja_cons (jv d.toJC 5 (mm 5) rfl) (ja_cons (jv d.toJC 8 (mm 8) rfl) (ja_nil)))) (ja_nil))) (ja_nil))) (sw2 d.toJC.kd (by rw [d.toJC.ss]; exact (d.toJC.sC.loc 9 (mm 9) _ rfl)) (by rw [d.toJC.ss]; exact (d.toJC.sC.loc 10 (mm 10) _ rfl)) rfl (by decide +kernel) rfl rfl rfl)) (jb_cons (js_set d.toJC 11 rfl (.inl (d.toJC.sC.loc 11 (mm 11) _ rfl)) (je_tup (ja_cons (je_str) (ja_cons (jv d.toJC 8 (mm 8) rfl) (ja_cons (je_call d.toJC (Tj_whole_root T) (by decide) (mm 3) (ja_cons (je_call d.toJC (Tj_far_square T) (by decide) (mm 4) (ja_cons (jv d.toJC 8 (mm 8) rfl) (ja_cons (jv d.toJC 4 (mm 4) rfl) (ja_nil)))) (ja_nil))) (ja_cons (jv d.toJC 9 (mm 9) rfl) (ja_cons (jv d.toJC 10 (mm 10) rfl) (ja_nil)))))))) (jb_one (js_ret (je_tup (ja_cons (jv d.toJC 11 (mm 11) rfl) (ja_cons (je_tup (ja_cons (je_str) (ja_cons (jv d.toJC 5 (mm 5) rfl) (ja_cons (je_int) (ja_cons (jv d.toJC 10 (mm 10) rfl) (ja_cons (jv d.toJC 6 (mm 6) rfl) (ja_nil))))))) (ja_cons (je_tup (ja_cons (je_str) (ja_cons (jv d.toJC 5 (mm 5) rfl) (ja_cons (jv d.toJC 4 (mm 4) rfl) (ja_nil))))) (ja_cons (je_tup (ja_cons (je_str) (ja_cons (jv d.toJC 4 (mm 4) rfl) (ja_cons (je_int) (ja_cons (jv d.toJC 6 (mm 6) rfl) (ja_cons (jv d.toJC 9 (mm 9) rfl) (ja_nil))))))) (ja_nil)))))))))))))))
theorem Tj_faces (T : Tp fa fn bx K mg) : JF P w K mg base "faces" 1 [] (fun ds _ => ds) 4 m_faces := by
  obtain ⟨fd, F⟩ := T.sy.def_ 24 (d := d_faces) rfl
  exact jf_mkN F fs_faces sc_faces (T.glo 40) ⟨rfl, by decide, by decide⟩ (fun _ _ _ _ _ _ us hl => match us, hl with | [_], _ => rfl) (fun X W d => body_faces T d)
theorem body_plus (T : Tp fa fn bx K mg) {X : Cx} {W : WX} (d : JD P w K mg base nm_plus (defScope (top 13)) vw_plus 2 X W) : JB X W (defBody (top 13)) t_plus :=
  jb_one (js_ret (je_call d.toJC (Tj_frac T) (by decide) (mm 0) (ja_cons (je_op opD_add (je_op opD_mul (je_ix (jv d.toJC 0 (mm 0) rfl) (je_int)) (je_ix (jv d.toJC 1 (mm 1) rfl) (je_int))) (je_op opD_mul (je_ix (jv d.toJC 1 (mm 1) rfl) (je_int)) (je_ix (jv d.toJC 0 (mm 0) rfl) (je_int)))) (ja_cons (je_op opD_mul (je_ix (jv d.toJC 0 (mm 0) rfl) (je_int)) (je_ix (jv d.toJC 1 (mm 1) rfl) (je_int))) (ja_nil)))))
theorem Tj_plus (T : Tp fa fn bx K mg) : JF P w K mg base "plus" 2 [] (fun ds _ => ds) 3 m_plus := by
  obtain ⟨fd, F⟩ := T.sy.def_ 25 (d := d_plus) rfl
  exact jf_mkN F fs_plus sc_plus (T.glo 53) ⟨rfl, by decide, by decide⟩ (fun _ _ _ _ _ _ us hl => match us, hl with | [_, _], _ => rfl) (fun X W d => body_plus T d)
theorem body_cross_of (T : Tp fa fn bx K mg) {X : Cx} {W : WX} (d : JD P w K mg base nm_cross_of (defScope (top 26)) vw_cross_of 0 X W) : JB X W (defBody (top 26)) t_cross_of :=
  jb_one (js_ret (je_op opD_sub (je_op opD_mul (je_ix (jv d.toJC 0 (mm 0) rfl) (je_int)) (je_ix (jv d.toJC 1 (mm 1) rfl) (je_int))) (je_op opD_mul (je_ix (jv d.toJC 0 (mm 0) rfl) (je_int)) (je_ix (jv d.toJC 1 (mm 1) rfl) (je_int)))))
theorem Tj_cross_of (T : Tp fa fn bx K mg) : JF P w K mg base "cross_of" 2 [] (fun ds _ => ds) 1 m_cross_of := by
  obtain ⟨fd, F⟩ := T.sy.def_ 26 (d := d_cross_of) rfl
  exact jf_mkN F fs_cross_of sc_cross_of (T.glo 57) ⟨rfl, by decide, by decide⟩ (fun _ _ _ _ _ _ us hl => match us, hl with | [_, _], _ => rfl) (fun X W d => body_cross_of T d)
theorem body_dot_of (T : Tp fa fn bx K mg) {X : Cx} {W : WX} (d : JD P w K mg base nm_dot_of (defScope (top 27)) vw_dot_of 0 X W) : JB X W (defBody (top 27)) t_dot_of :=
  jb_one (js_ret (je_op opD_add (je_op opD_mul (je_ix (jv d.toJC 0 (mm 0) rfl) (je_int)) (je_ix (jv d.toJC 1 (mm 1) rfl) (je_int))) (je_op opD_mul (je_ix (jv d.toJC 0 (mm 0) rfl) (je_int)) (je_ix (jv d.toJC 1 (mm 1) rfl) (je_int)))))
theorem Tj_dot_of (T : Tp fa fn bx K mg) : JF P w K mg base "dot_of" 2 [] (fun ds _ => ds) 1 m_dot_of := by
  obtain ⟨fd, F⟩ := T.sy.def_ 27 (d := d_dot_of) rfl
  exact jf_mkN F fs_dot_of sc_dot_of (T.glo 58) ⟨rfl, by decide, by decide⟩ (fun _ _ _ _ _ _ us hl => match us, hl with | [_, _], _ => rfl) (fun X W d => body_dot_of T d)
theorem body_left_of (T : Tp fa fn bx K mg) {X : Cx} {W : WX} (d : JD P w K mg base nm_left_of (defScope (top 33)) vw_left_of 0 X W) : JB X W (defBody (top 33)) t_left_of :=
  jb_one (js_ret (je_tup (ja_cons (je_op opD_sub (je_int) (je_ix (jv d.toJC 0 (mm 0) rfl) (je_int))) (ja_cons (je_ix (jv d.toJC 0 (mm 0) rfl) (je_int)) (ja_nil)))))
theorem Tj_left_of (T : Tp fa fn bx K mg) : JF P w K mg base "left_of" 1 [] (fun ds _ => ds) 1 m_left_of := by
  obtain ⟨fd, F⟩ := T.sy.def_ 28 (d := d_left_of) rfl
  exact jf_mkN F fs_left_of sc_left_of (T.glo 59) ⟨rfl, by decide, by decide⟩ (fun _ _ _ _ _ _ us hl => match us, hl with | [_], _ => rfl) (fun X W d => body_left_of T d)
theorem body_quarters (T : Tp fa fn bx K mg) {X : Cx} {W : WX} (d : JD P w K mg base nm_quarters (defScope (top 34)) vw_quarters 1 X W) : JB X W (defBody (top 34)) t_quarters :=
  jb_cons (js_if (jt_cmp (opD_eq d.toJC.room) (jv d.toJC 0 (mm 0) rfl) (jv d.toJC 1 (mm 1) rfl) rfl) (jb_one (js_ret (je_tup (ja_cons (je_int) (ja_cons (jv d.toJC 0 (mm 0) rfl) (ja_nil)))))) (jb_nil)) (jb_cons (js_par d.toJC 2 3 rfl rfl (by decide) (d.toJC.sC.loc 2 (mm 2) _ rfl) (d.toJC.sC.loc 3 (mm 3) _ rfl) (ja_cons (je_int) (ja_cons (jv d.toJC 0 (mm 0) rfl) (ja_nil))) (sw2 d.toJC.kd (by rw [d.toJC.ss]; exact (d.toJC.sC.loc 2 (mm 2) _ rfl)) (by rw [d.toJC.ss]; exact (d.toJC.sC.loc 3 (mm 3) _ rfl)) rfl (by decide +kernel) rfl rfl rfl)) (jb_cons (js_while d (jt_not (jt_w (jw_and (jt_cmp opD_ge (je_call d.toJC (Tj_cross_of T) (by decide) (mm 0) (ja_cons (jv d.toJC 3 (mm 3) rfl) (ja_cons (jv d.toJC 1 (mm 1) rfl) (ja_nil)))) (je_int) rfl) (jw_and1 (jt_cmp opD_gt (je_call d.toJC (Tj_dot_of T) (by decide) (mm 1) (ja_cons (jv d.toJC 3 (mm 3) rfl) (ja_cons (jv d.toJC 1 (mm 1) rfl) (ja_nil)))) (je_int) rfl))))) (jb_cons (js_set d.toJC 3 rfl (.inl (d.toJC.sC.loc 3 (mm 3) _ rfl)) (je_call d.toJC (Tj_left_of T) (by decide) (mm 2) (ja_cons (jv d.toJC 3 (mm 3) rfl) (ja_nil)))) (jb_one (js_aug d.toJC 2 rfl (.inl (d.toJC.sC.loc 2 (mm 2) _ rfl)) (je_int) opD_iadd)))) (jb_one (js_ret (je_tup (ja_cons (jv d.toJC 2 (mm 2) rfl) (ja_cons (jv d.toJC 3 (mm 3) rfl) (ja_nil))))))))
theorem Tj_quarters (T : Tp fa fn bx K mg) : JF P w K mg base "quarters" 2 [] (fun ds _ => ds) 2 m_quarters := by
  obtain ⟨fd, F⟩ := T.sy.def_ 29 (d := d_quarters) rfl
  exact jf_mkN F fs_quarters sc_quarters (T.glo 55) ⟨rfl, by decide, by decide⟩ (fun _ _ _ _ _ _ us hl => match us, hl with | [_, _], _ => rfl) (fun X W d => body_quarters T d)
theorem body_length_of (T : Tp fa fn bx K mg) {X : Cx} {W : WX} (d : JD P w K mg base nm_length_of (defScope (top 32)) vw_length_of 1 X W) : JB X W (defBody (top 32)) t_length_of :=
  jb_one (js_ret (je_call d.toJC (Tj_whole_root T) (by decide) (mm 0) (ja_cons (je_call d.toJC (Tj_dot_of T) (by decide) (mm 1) (ja_cons (jv d.toJC 0 (mm 0) rfl) (ja_cons (jv d.toJC 0 (mm 0) rfl) (ja_nil)))) (ja_nil))))
theorem Tj_length_of (T : Tp fa fn bx K mg) : JF P w K mg base "length_of" 1 [] (fun ds _ => ds) 2 m_length_of := by
  obtain ⟨fd, F⟩ := T.sy.def_ 30 (d := d_length_of) rfl
  exact jf_mkN F fs_length_of sc_length_of (T.glo 60) ⟨rfl, by decide, by decide⟩ (fun _ _ _ _ _ _ us hl => match us, hl with | [_], _ => rfl) (fun X W d => body_length_of T d)
theorem body_rest_of (T : Tp fa fn bx K mg) {X : Cx} {W : WX} (d : JD P w K mg base nm_rest_of (defScope (top 35)) vw_rest_of 2 X W) : JB X W (defBody (top 35)) t_rest_of :=
  jb_cons (js_set d.toJC 2 rfl (.inl (d.toJC.sC.loc 2 (mm 2) _ rfl)) (je_op opD_mul (je_call d.toJC (Tj_length_of T) (by decide) (mm 0) (ja_cons (jv d.toJC 0 (mm 0) rfl) (ja_nil))) (je_call d.toJC (Tj_length_of T) (by decide) (mm 0) (ja_cons (jv d.toJC 1 (mm 1) rfl) (ja_nil))))) (jb_one (js_ret (je_call d.toJC (Tj_frac T) (by decide) (mm 1) (ja_cons (je_call d.toJC (Tj_cross_of T) (by decide) (mm 2) (ja_cons (jv d.toJC 0 (mm 0) rfl) (ja_cons (jv d.toJC 1 (mm 1) rfl) (ja_nil)))) (ja_cons (je_op opD_add (jv d.toJC 2 (mm 2) rfl) (je_call d.toJC (Tj_dot_of T) (by decide) (mm 3) (ja_cons (jv d.toJC 0 (mm 0) rfl) (ja_cons (jv d.toJC 1 (mm 1) rfl) (ja_nil))))) (ja_nil))))))
theorem Tj_rest_of (T : Tp fa fn bx K mg) : JF P w K mg base "rest_of" 2 [] (fun ds _ => ds) 3 m_rest_of := by
  obtain ⟨fd, F⟩ := T.sy.def_ 31 (d := d_rest_of) rfl
  exact jf_mkN F fs_rest_of sc_rest_of (T.glo 56) ⟨rfl, by decide, by decide⟩ (fun _ _ _ _ _ _ us hl => match us, hl with | [_, _], _ => rfl) (fun X W d => body_rest_of T d)
theorem body_face_length (T : Tp fa fn bx K mg) {X : Cx} {W : WX} (d : JD P w K mg base nm_face_length (defScope (top 36)) vw_face_length 3 X W) : JB X W (defBody (top 36)) t_face_length :=
  jb_cons (js_if (jt_cmp (opD_eq d.toJC.room) (je_ix (jv d.toJC 0 (mm 0) rfl) (je_int)) (je_str) rfl) (jb_one (js_ret (je_glob d.toJC (mm 0) (Tk_ONE T)))) (jb_nil)) (jb_cons (js_asg (je_call d.toJC (Tj_quarters T) (by decide) (mm 1) (ja_cons (je_ix (jv d.toJC 0 (mm 0) rfl) (je_int)) (ja_cons (je_ix (jv d.toJC 0 (mm 0) rfl) (je_int)) (ja_nil)))) (jg_tup d.toJC.calm (jgs_cons (jg_name d.toJC 1 rfl (.inl (d.toJC.sC.loc 1 (mm 1) _ rfl))) (jgs_cons (jg_name d.toJC 2 rfl (.inl (d.toJC.sC.loc 2 (mm 2) _ rfl))) (jgs_nil))))) (jb_one (js_ret (je_call d.toJC (Tj_plus T) (by decide) (mm 2) (ja_cons (je_tup (ja_cons (jv d.toJC 1 (mm 1) rfl) (ja_cons (je_int) (ja_nil)))) (ja_cons (je_call d.toJC (Tj_rest_of T) (by decide) (mm 3) (ja_cons (jv d.toJC 2 (mm 2) rfl) (ja_cons (je_ix (jv d.toJC 0 (mm 0) rfl) (je_int)) (ja_nil)))) (ja_nil)))))))
theorem Tj_face_length (T : Tp fa fn bx K mg) : JF P w K mg base "face_length" 1 [] (fun ds _ => ds) 4 m_face_length := by
  obtain ⟨fd, F⟩ := T.sy.def_ 32 (d := d_face_length) rfl
  exact jf_mkN F fs_face_length sc_face_length (T.glo 52) ⟨rfl, by decide, by decide⟩ (fun _ _ _ _ _ _ us hl => match us, hl with | [_], _ => rfl) (fun X W d => body_face_length T d)
theorem body_beginnings (T : Tp fa fn bx K mg) {X : Cx} {W : WX} (d : JD P w K mg base nm_beginnings (defScope (top 38)) vw_beginnings 4 X W) : JB X W (defBody (top 38)) t_beginnings :=
  jb_cons (js_set d.toJC 1 rfl (.inl (d.toJC.sC.loc 1 (mm 1) _ rfl)) (je_lstR (ja_cons (je_glob d.toJC (mm 0) (Tk_ZERO T)) (ja_nil)))) (jb_cons (js_for d (ji_val (je_call d.toJC (Tj_faces T) (by decide) (mm 1) (ja_cons (jv d.toJC 0 (mm 0) rfl) (ja_nil)))) (jg_name d.toJC 2 rfl (.inl (d.toJC.sC.loc 2 (mm 2) _ rfl))) (jb_one (js_expr (je_append (jv d.toJC 1 (mm 1) rfl) (ja_cons (je_call d.toJC (Tj_plus T) (by decide) (mm 2) (ja_cons (je_ix (jv d.toJC 1 (mm 1) rfl) (je_neg (je_int))) (ja_cons (je_call d.toJC (Tj_face_length T) (by decide) (mm 3) (ja_cons (jv d.toJC 2 (mm 2) rfl) (ja_nil))) (ja_nil)))) (ja_nil)))))) (jb_one (js_ret (je_sl (jv d.toJC 1 (mm 1) rfl) (jo_none) (jo_some (je_neg (je_int)))))))
theorem Tj_beginnings (T : Tp fa fn bx K mg) : JF P w K mg base "beginnings" 1 [] (fun ds _ => ds) 5 m_beginnings := by
  obtain ⟨fd, F⟩ := T.sy.def_ 33 (d := d_beginnings) rfl
  exact jf_mkN F fs_beginnings sc_beginnings (T.glo 39) ⟨rfl, by decide, by decide⟩ (fun _ _ _ _ _ _ us hl => match us, hl with | [_], _ => rfl) (fun X W d => body_beginnings T d)
theorem body_times (T : Tp fa fn bx K mg) {X : Cx} {W : WX} (d : JD P w K mg base nm_times (defScope (top 15)) vw_times 2 X W) : JB X W (defBody (top 15)) t_times :=
  jb_one (js_ret (je_call d.toJC (Tj_frac T) (by decide) (mm 0) (ja_cons (je_op opD_mul (je_ix (jv d.toJC 0 (mm 0) rfl) (je_int)) (je_ix (jv d.toJC 1 (mm 1) rfl) (je_int))) (ja_cons (je_op opD_mul (je_ix (jv d.toJC 0 (mm 0) rfl) (je_int)) (je_ix (jv d.toJC 1 (mm 1) rfl) (je_int))) (ja_nil)))))
theorem Tj_times (T : Tp fa fn bx K mg) : JF P w K mg base "times" 2 [] (fun ds _ => ds) 3 m_times := by
  obtain ⟨fd, F⟩ := T.sy.def_ 34 (d := d_times) rfl
  exact jf_mkN F fs_times sc_times (T.glo 62) ⟨rfl, by decide, by decide⟩ (fun _ _ _ _ _ _ us hl => match us, hl with | [_, _], _ => rfl) (fun X W d => body_times T d)
theorem body_over (T : Tp fa fn bx K mg) {X : Cx} {W : WX} (d : JD P w K mg base nm_over (defScope (top 16)) vw_over 2 X W) : JB X W (defBody (top 16)) t_over :=
  jb_one (js_ret (je_call d.toJC (Tj_frac T) (by decide) (mm 0) (ja_cons (je_op opD_mul (je_ix (jv d.toJC 0 (mm 0) rfl) (je_int)) (je_ix (jv d.toJC 1 (mm 1) rfl) (je_int))) (ja_cons (je_op opD_mul (je_ix (jv d.toJC 0 (mm 0) rfl) (je_int)) (je_ix (jv d.toJC 1 (mm 1) rfl) (je_int))) (ja_nil)))))
theorem Tj_over (T : Tp fa fn bx K mg) : JF P w K mg base "over" 2 [] (fun ds _ => ds) 3 m_over := by
  obtain ⟨fd, F⟩ := T.sy.def_ 35 (d := d_over) rfl
  exact jf_mkN F fs_over sc_over (T.glo 64) ⟨rfl, by decide, by decide⟩ (fun _ _ _ _ _ _ us hl => match us, hl with | [_, _], _ => rfl) (fun X W d => body_over T d)
theorem body_turned (T : Tp fa fn bx K mg) {X : Cx} {W : WX} (d : JD P w K mg base nm_turned (defScope (top 39)) vw_turned 3 X W) : JB X W (defBody (top 39)) t_turned :=
  jb_cons (js_set d.toJC 2 rfl (.inl (d.toJC.sC.loc 2 (mm 2) _ rfl)) (jv d.toJC 0 (mm 0) rfl)) (jb_cons (js_for d (ji_r1 d.toJC (mm 0) (T.free 0) (ja_cons (je_op opD_div (je_ix (jv d.toJC 1 (mm 1) rfl) (je_int)) (je_ix (jv d.toJC 1 (mm 1) rfl) (je_int))) (ja_nil))) (jg_name d.toJC 3 rfl (.inl (d.toJC.sC.loc 3 (mm 3) _ rfl))) (jb_one (js_set d.toJC 2 rfl (.inl (d.toJC.sC.loc 2 (mm 2) _ rfl)) (je_call d.toJC (Tj_left_of T) (by decide) (mm 1) (ja_cons (jv d.toJC 2 (mm 2) rfl) (ja_nil)))))) (jb_cons (js_set d.toJC 4 rfl (.inl (d.toJC.sC.loc 4 (mm 4) _ rfl)) (je_call d.toJC (Tj_frac T) (by decide) (mm 2) (ja_cons (je_op opD_mod (je_ix (jv d.toJC 1 (mm 1) rfl) (je_int)) (je_ix (jv d.toJC 1 (mm 1) rfl) (je_int))) (ja_cons (je_ix (jv d.toJC 1 (mm 1) rfl) (je_int)) (ja_nil))))) (jb_cons (js_set d.toJC 5 rfl (.inl (d.toJC.sC.loc 5 (mm 5) _ rfl)) (je_call d.toJC (Tj_length_of T) (by decide) (mm 3) (ja_cons (jv d.toJC 2 (mm 2) rfl) (ja_nil)))) (jb_cons (js_set d.toJC 6 rfl (.inl (d.toJC.sC.loc 6 (mm 6) _ rfl)) (je_call d.toJC (Tj_times T) (by decide) (mm 4) (ja_cons (jv d.toJC 4 (mm 4) rfl) (ja_cons (jv d.toJC 4 (mm 4) rfl) (ja_nil))))) (jb_cons (js_par3 d.toJC 7 8 9 rfl rfl rfl (by decide) (by decide) (by decide) (d.toJC.sC.loc 7 (mm 7) _ rfl) (d.toJC.sC.loc 8 (mm 8) _ rfl) (d.toJC.sC.loc 9 (mm 9) _ rfl) (ja_cons (je_call d.toJC (Tj_minus T) (by decide) (mm 5) (ja_cons (je_glob d.toJC (mm 6) (Tk_ONE T)) (ja_cons (jv d.toJC 6 (mm 6) rfl) (ja_nil)))) (ja_cons (je_call d.toJC (Tj_plus T) (by decide) (mm 7) (ja_cons (jv d.toJC 4 (mm 4) rfl) (ja_cons (jv d.toJC 4 (mm 4) rfl) (ja_nil)))) (ja_cons (je_call d.toJC (Tj_plus T) (by decide) (mm 7) (ja_cons (je_glob d.toJC (mm 6) (Tk_ONE T)) (ja_cons (jv d.toJC 6 (mm 6) rfl) (ja_nil)))) (ja_nil)))) (sw3 d.toJC.kd (by rw [d.toJC.ss]; exact (d.toJC.sC.loc 7 (mm 7) _ rfl)) (by rw [d.toJC.ss]; exact (d.toJC.sC.loc 8 (mm 8) _ rfl)) (by rw [d.toJC.ss]; exact (d.toJC.sC.loc 9 (mm 9) _ rfl)) rfl rfl (by decide +kernel) (by decide +kernel) (by decide +kernel) rfl rfl rfl)) (jb_cons (js_set d.toJC 10 rfl (.inl (d.toJC.sC.loc 10 (mm 10) _ rfl)) (je_lstR (ja_nil))) (jb_cons (js_for d (ji_zipS d.toJC (mm 8) (T.free 37) (jv d.toJC 2 (mm 2) rfl) (je_call d.toJC (Tj_left_of T) (by decide) (mm 1) (ja_cons (jv d.toJC 2 (mm 2) rfl) (ja_nil)))) (jg_tup d.toJC.calm (jgs_cons (jg_name d.toJC 11 rfl (.inl (d.toJC.sC.loc 11 (mm 11) _ rfl))) (jgs_cons (jg_name d.toJC 12 rfl (.inl (d.toJC.sC.loc 12 (mm 12) _ rfl))) (jgs_nil)))) (jb_cons (js_set d.toJC 13 rfl (.inl (d.toJC.sC.loc 13 (mm 13) _ rfl)) (je_call d.toJC (Tj_plus T) (by decide) (mm 7) (ja_cons (je_call d.toJC (Tj_times T) (by decide) (mm 4) (ja_cons (jv d.toJC 7 (mm 7) rfl) (ja_cons (je_tup (ja_cons (jv d.toJC 11 (mm 11) rfl) (ja_cons (je_int) (ja_nil)))) (ja_nil)))) (ja_cons (je_call d.toJC (Tj_times T) (by decide) (mm 4) (ja_cons (jv d.toJC 8 (mm 8) rfl) (ja_cons (je_tup (ja_cons (jv d.toJC 12 (mm 12) rfl) (ja_cons (je_int) (ja_nil)))) (ja_nil)))) (ja_nil))))) (jb_one (js_expr (je_append (jv d.toJC 10 (mm 10) rfl) (ja_cons (je_call d.toJC (Tj_over T) (by decide) (mm 9) (ja_cons (jv d.toJC 13 (mm 13) rfl) (ja_cons (je_call d.toJC (Tj_times T) (by decide) (mm 4) (ja_cons (jv d.toJC 9 (mm 9) rfl) (ja_cons (je_tup (ja_cons (jv d.toJC 5 (mm 5) rfl) (ja_cons (je_int) (ja_nil)))) (ja_nil)))) (ja_nil)))) (ja_nil))))))) (jb_one (js_ret (je_tup (ja_cons (je_ix (jv d.toJC 10 (mm 10) rfl) (je_int)) (ja_cons (je_ix (jv d.toJC 10 (mm 10) rfl) (je_int)) (ja_nil)))))))))))))
theorem Tj_turned (T : Tp fa fn bx K mg) : JF P w K mg base "turned" 2 [] (fun ds _ => ds) 4 m_turned := by
  obtain ⟨fd, F⟩ := T.sy.def_ 36 (d := d_turned) rfl
  exact jf_mkN F fs_turned sc_turned (T.glo 63) ⟨rfl, by decide, by decide⟩ (fun _ _ _ _ _ _ us hl => match us, hl with | [_, _], _ => rfl) (fun X W d => body_turned T d)
theorem body_spoke_of (T : Tp fa fn bx K mg) {X : Cx} {W : WX} (d : JD P w K mg base nm_spoke_of (defScope (top 40)) vw_spoke_of 4 X W) : JB X W (defBody (top 40)) t_spoke_of :=
  jb_cons (js_if (jt_cmp (opD_eq d.toJC.room) (je_ix (jv d.toJC 0 (mm 0) rfl) (je_int)) (je_str) rfl) (jb_cons (js_asg (je_sl (jv d.toJC 0 (mm 0) rfl) (jo_some (je_int)) (jo_none)) (jg_tup d.toJC.calm (jgs_cons (jg_name d.toJC 2 rfl (.inl (d.toJC.sC.loc 2 (mm 1) _ rfl))) (jgs_cons (jg_name d.toJC 3 rfl (.inl (d.toJC.sC.loc 3 (mm 2) _ rfl))) (jgs_nil))))) (jb_cons (js_asg (je_call d.toJC (Tj_outward T) (by decide) (mm 0) (ja_cons (jv d.toJC 2 (mm 2) rfl) (ja_cons (jv d.toJC 3 (mm 3) rfl) (ja_nil)))) (jg_tup d.toJC.calm (jgs_cons (jg_name d.toJC 4 rfl (.inl (d.toJC.sC.loc 4 (mm 3) _ rfl))) (jgs_cons (jg_name d.toJC 5 rfl (.inl (d.toJC.sC.loc 5 (mm 4) _ rfl))) (jgs_nil))))) (jb_cons (js_set d.toJC 6 rfl (.inl (d.toJC.sC.loc 6 (mm 5) _ rfl)) (je_call d.toJC (Tj_length_of T) (by decide) (mm 1) (ja_cons (je_tup (ja_cons (jv d.toJC 4 (mm 4) rfl) (ja_cons (jv d.toJC 5 (mm 5) rfl) (ja_nil)))) (ja_nil)))) (jb_cons (js_set d.toJC 7 rfl (.inl (d.toJC.sC.loc 7 (mm 6) _ rfl)) (je_callTy d.toJC cd_tup (mm 2) (T.free 61) (by decide +kernel) (ja_cons (je_lc d.toJC (own := [(".0", 13), ("one", 14), ("other", 15)]) (vw2 := vb0_spoke_of) (by decide +kernel) (scOf (by decide +kernel)) (by decide) (ji_zip d.toJC (mm 3) (T.free 37) (jv d.toJC 2 (mm 2) rfl) (jv d.toJC 3 (mm 3) rfl)) (fun _ c0 => jg_tup c0.calm (jgs_cons (jg_name c0 14 rfl (.inl (c0.sC.loc 14 (mm 1) _ rfl))) (jgs_cons (jg_name c0 15 rfl (.inl (c0.sC.loc 15 (mm 2) _ rfl))) (jgs_nil)))) (fun _ c0 => jts_nil) (fun _ c0 => je_call c0 (Tj_plus T) (by decide) (mm 0) (ja_cons (je_tup (ja_cons (jv c0 14 (mm 2) rfl) (ja_cons (je_int) (ja_nil)))) (ja_cons (je_call c0 (Tj_times T) (by decide) (mm 1) (ja_cons (jv c0 1 (mm 0) rfl) (ja_cons (je_tup (ja_cons (je_op opD_sub (jv c0 15 (mm 3) rfl) (jv c0 14 (mm 2) rfl)) (ja_cons (je_int) (ja_nil)))) (ja_nil)))) (ja_nil)))) (by walk_at "mo" <;> first | with_reducible exact (Tj_plus (P := P) (w := w) (base := base) T).mo | with_reducible exact (Tj_times (P := P) (w := w) (base := base) T).mo) (by walk_at "mo" <;> first | with_reducible exact (Tj_plus (P := P) (w := w) (base := base) T).mo | with_reducible exact (Tj_times (P := P) (w := w) (base := base) T).mo)) (ja_nil)))) (jb_one (js_ret (je_tup (ja_cons (jv d.toJC 7 (mm 7) rfl) (ja_cons (je_tup (ja_cons (je_call d.toJC (Tj_frac T) (by decide) (mm 4) (ja_cons (jv d.toJC 4 (mm 4) rfl) (ja_cons (jv d.toJC 6 (mm 6) rfl) (ja_nil)))) (ja_cons (je_call d.toJC (Tj_frac T) (by decide) (mm 4) (ja_cons (jv d.toJC 5 (mm 5) rfl) (ja_cons (jv d.toJC 6 (mm 6) rfl) (ja_nil)))) (ja_nil)))) (ja_nil)))))))))) (jb_nil)) (jb_cons (js_star (i := 3) (aft := 0) d.toJC.calm (jv d.toJC 0 (mm 0) rfl) (jgs_cons (jg_name d.toJC 8 rfl (.inl (d.toJC.sC.loc 8 (mm 7) _ rfl))) (jgs_cons (jg_name d.toJC 9 rfl (.inl (d.toJC.sC.loc 9 (mm 8) _ rfl))) (jgs_cons (jg_name d.toJC 10 rfl (.inr ⟨d.toJC.sC.cel 10 (mm 1) _ rfl, d.fn⟩)) (jgs_cons (jg_name d.toJC 11 rfl (.inl (d.toJC.sC.loc 11 (mm 9) _ rfl))) (jgs_nil)))))) (jb_cons (js_set d.toJC 12 rfl (.inl (d.toJC.sC.loc 12 (mm 10) _ rfl)) (je_call d.toJC (Tj_turned T) (by decide) (mm 5) (ja_cons (je_ix (jv d.toJC 11 (mm 11) rfl) (je_int)) (ja_cons (jv d.toJC 1 (mm 1) rfl) (ja_nil))))) (jb_one (js_ret (je_tup (ja_cons (je_callTy d.toJC cd_tup (mm 2) (T.free 61) (by decide +kernel) (ja_cons (je_lc d.toJC (own := [(".0", 13), ("one", 14), ("other", 15)]) (vw2 := vb1_spoke_of) (by decide +kernel) (scOf (by decide +kernel)) (by decide) (ji_zip d.toJC (mm 3) (T.free 37) (jv d.toJC 9 (mm 9) rfl) (jv d.toJC 12 (mm 12) rfl)) (fun _ c1 => jg_tup c1.calm (jgs_cons (jg_name c1 14 rfl (.inl (c1.sC.loc 14 (mm 1) _ rfl))) (jgs_cons (jg_name c1 15 rfl (.inl (c1.sC.loc 15 (mm 2) _ rfl))) (jgs_nil)))) (fun _ c1 => jts_nil) (fun _ c1 => je_call c1 (Tj_plus T) (by decide) (mm 0) (ja_cons (je_tup (ja_cons (jv c1 14 (mm 2) rfl) (ja_cons (je_int) (ja_nil)))) (ja_cons (je_call c1 (Tj_times T) (by decide) (mm 1) (ja_cons (je_tup (ja_cons (jv c1 10 (mm 0) rfl) (ja_cons (je_int) (ja_nil)))) (ja_cons (jv c1 15 (mm 3) rfl) (ja_nil)))) (ja_nil)))) (by walk_at "mo" <;> first | with_reducible exact (Tj_plus (P := P) (w := w) (base := base) T).mo | with_reducible exact (Tj_times (P := P) (w := w) (base := base) T).mo) (by walk_at "mo" <;> first | with_reducible exact (Tj_plus (P := P) (w := w) (base := base) T).mo | with_reducible exact (Tj_times (P := P) (w := w) (base := base) T).mo)) (ja_nil))) (ja_cons (jv d.toJC 12 (mm 12) rfl) (ja_nil))))))))
theorem Tj_spoke_of (T : Tp fa fn bx K mg) : JF P w K mg base "spoke_of" 2 [] (fun ds _ => ds) 5 m_spoke_of := by
  obtain ⟨fd, F⟩ := T.sy.def_ 37 (d := d_spoke_of) rfl
  exact jf_mkN F fs_spoke_of sc_spoke_of (T.glo 43) ⟨rfl, by decide, by decide⟩ (fun _ _ _ _ _ _ us hl => match us, hl with | [_, _], _ => rfl) (fun X W d => body_spoke_of T d)
theorem body_is_whole (T : Tp fa fn bx K mg) {X : Cx} {W : WX} (d : JD P w K mg base nm_is_whole (defScope (top 20)) vw_is_whole 0 X W) : JB X W (defBody (top 20)) t_is_whole :=
  jb_one (js_ret (je_and (je_isi d.toJC (mm 0) (T.free 24) (mm 1) (T.free 22) (by decide +kernel) (jv d.toJC 0 (mm 0) rfl)) (je_one (je_not (je_isi d.toJC (mm 0) (T.free 24) (mm 2) (T.free 70) (by decide +kernel) (jv d.toJC 0 (mm 0) rfl))))))
theorem Tj_is_whole (T : Tp fa fn bx K mg) : JF P w K mg base "is_whole" 1 [] (fun ds _ => ds) 1 m_is_whole := by
  obtain ⟨fd, F⟩ := T.sy.def_ 38 (d := d_is_whole) rfl
  exact jf_mkN F fs_is_whole sc_is_whole (T.glo 69) ⟨rfl, by decide, by decide⟩ (fun _ _ _ _ _ _ us hl => match us, hl with | [_], _ => rfl) (fun X W d => body_is_whole T d)
theorem body_is_row (T : Tp fa fn bx K mg) {X : Cx} {W : WX} (d : JD P w K mg base nm_is_row (defScope (top 21)) vw_is_row 0 X W) : JB X W (defBody (top 21)) t_is_row :=
  jb_one (js_ret (je_and (je_isi d.toJC (mm 0) (T.free 24) (mm 1) (T.free 61) (by decide +kernel) (jv d.toJC 0 (mm 0) rfl)) (je_one (je_cmp (opD_eq d.toJC.room) (je_callB d.toJC cd_len (mm 2) (T.free 2) (by decide +kernel) (ja_cons (jv d.toJC 0 (mm 0) rfl) (ja_nil))) (jv d.toJC 1 (mm 1) rfl) rfl))))
theorem Tj_is_row (T : Tp fa fn bx K mg) : JF P w K mg base "is_row" 2 [] (fun ds _ => ds) 1 m_is_row := by
  obtain ⟨fd, F⟩ := T.sy.def_ 39 (d := d_is_row) rfl
  exact jf_mkN F fs_is_row sc_is_row (T.glo 68) ⟨rfl, by decide, by decide⟩ (fun _ _ _ _ _ _ us hl => match us, hl with | [_, _], _ => rfl) (fun X W d => body_is_row T d)
theorem body_are_whole (T : Tp fa fn bx K mg) {X : Cx} {W : WX} (d : JD P w K mg base nm_are_whole (defScope (top 22)) vw_are_whole 1 X W) : JB X W (defBody (top 22)) t_are_whole :=
  jb_one (js_ret (je_and (je_call d.toJC (Tj_is_row T) (by decide) (mm 0) (ja_cons (jv d.toJC 0 (mm 0) rfl) (ja_cons (jv d.toJC 1 (mm 1) rfl) (ja_nil)))) (je_one (je_callB d.toJC (cd_all d.toJC.calm) (mm 1) (T.free 8) (by decide +kernel) (ja_cons (je_lc d.toJC (own := [(".0", 2), ("one", 3)]) (vw2 := vb0_are_whole) (by decide +kernel) (scOf (by decide +kernel)) (by decide) (ji_val (jv d.toJC 0 (mm 0) rfl)) (fun _ c0 => jg_name c0 3 rfl (.inl (c0.sC.loc 3 (mm 1) _ rfl))) (fun _ c0 => jts_nil) (fun _ c0 => je_call c0 (Tj_is_whole T) (by decide) (mm 0) (ja_cons (jv c0 3 (mm 1) rfl) (ja_nil))) (by walk_at "mo" <;> first | with_reducible exact (Tj_is_whole (P := P) (w := w) (base := base) T).mo) (by walk_at "mo" <;> first | with_reducible exact (Tj_is_whole (P := P) (w := w) (base := base) T).mo)) (ja_nil))))))
theorem Tj_are_whole (T : Tp fa fn bx K mg) : JF P w K mg base "are_whole" 2 [] (fun ds _ => ds) 2 m_are_whole := by
  obtain ⟨fd, F⟩ := T.sy.def_ 40 (d := d_are_whole) rfl
  exact jf_mkN F fs_are_whole sc_are_whole (T.glo 67) ⟨rfl, by decide, by decide⟩ (fun _ _ _ _ _ _ us hl => match us, hl with | [_, _], _ => rfl) (fun X W d => body_are_whole T d)
theorem body_is_fraction (T : Tp fa fn bx K mg) {X : Cx} {W : WX} (d : JD P w K mg base nm_is_fraction (defScope (top 23)) vw_is_fraction 2 X W) : JB X W (defBody (top 23)) t_is_fraction :=
  jb_cons (js_if (jt_w (jw_or (jt_not (jt_tru (je_call d.toJC (Tj_are_whole T) (by decide) (mm 0) (ja_cons (jv d.toJC 0 (mm 0) rfl) (ja_cons (je_int) (ja_nil)))))) (jw_or1 (jt_cmp opD_lt (je_ix (jv d.toJC 0 (mm 0) rfl) (je_int)) (je_int) rfl)))) (jb_one (js_ret (je_bl))) (jb_nil)) (jb_cons (js_par d.toJC 1 2 rfl rfl (by decide) (d.toJC.sC.loc 1 (mm 1) _ rfl) (d.toJC.sC.loc 2 (mm 2) _ rfl) (ja_cons (je_callB d.toJC cd_abs (mm 1) (T.free 16) (by decide +kernel) (ja_cons (je_ix (jv d.toJC 0 (mm 0) rfl) (je_int)) (ja_nil))) (ja_cons (je_ix (jv d.toJC 0 (mm 0) rfl) (je_int)) (ja_nil))) (sw2 d.toJC.kd (by rw [d.toJC.ss]; exact (d.toJC.sC.loc 1 (mm 1) _ rfl)) (by rw [d.toJC.ss]; exact (d.toJC.sC.loc 2 (mm 2) _ rfl)) rfl (by decide +kernel) rfl rfl rfl)) (jb_cons (js_while d (jt_cmp (opD_ne d.toJC.room) (jv d.toJC 2 (mm 2) rfl) (je_int) rfl) (jb_one (js_par d.toJC 1 2 rfl rfl (by decide) (d.toJC.sC.loc 1 (mm 1) _ rfl) (d.toJC.sC.loc 2 (mm 2) _ rfl) (ja_cons (jv d.toJC 2 (mm 2) rfl) (ja_cons (je_op opD_mod (jv d.toJC 1 (mm 1) rfl) (jv d.toJC 2 (mm 2) rfl)) (ja_nil))) (sw2 d.toJC.kd (by rw [d.toJC.ss]; exact (d.toJC.sC.loc 1 (mm 1) _ rfl)) (by rw [d.toJC.ss]; exact (d.toJC.sC.loc 2 (mm 2) _ rfl)) rfl (by decide +kernel) rfl rfl rfl)))) (jb_one (js_ret (je_cmp (opD_eq d.toJC.room) (jv d.toJC 1 (mm 1) rfl) (je_int) rfl)))))
theorem Tj_is_fraction (T : Tp fa fn bx K mg) : JF P w K mg base "is_fraction" 1 [] (fun ds _ => ds) 3 m_is_fraction := by
  obtain ⟨fd, F⟩ := T.sy.def_ 41 (d := d_is_fraction) rfl
  exact jf_mkN F fs_is_fraction sc_is_fraction (T.glo 65) ⟨rfl, by decide, by decide⟩ (fun _ _ _ _ _ _ us hl => match us, hl with | [_], _ => rfl) (fun X W d => body_is_fraction T d)
theorem body_around (T : Tp fa fn bx K mg) {X : Cx} {W : WX} (d : JD P w K mg base nm_around (defScope (top 37)) vw_around 4 X W) : JB X W (defBody (top 37)) t_around :=
  jb_cons (js_set d.toJC 1 rfl (.inl (d.toJC.sC.loc 1 (mm 1) _ rfl)) (je_glob d.toJC (mm 0) (Tk_ZERO T))) (jb_cons (js_for d (ji_val (je_call d.toJC (Tj_faces T) (by decide) (mm 1) (ja_cons (jv d.toJC 0 (mm 0) rfl) (ja_nil)))) (jg_name d.toJC 2 rfl (.inl (d.toJC.sC.loc 2 (mm 2) _ rfl))) (jb_one (js_set d.toJC 1 rfl (.inl (d.toJC.sC.loc 1 (mm 1) _ rfl)) (je_call d.toJC (Tj_plus T) (by decide) (mm 2) (ja_cons (jv d.toJC 1 (mm 1) rfl) (ja_cons (je_call d.toJC (Tj_face_length T) (by decide) (mm 3) (ja_cons (jv d.toJC 2 (mm 2) rfl) (ja_nil))) (ja_nil))))))) (jb_one (js_ret (jv d.toJC 1 (mm 1) rfl))))
theorem Tj_around (T : Tp fa fn bx K mg) : JF P w K mg base "around" 1 [] (fun ds _ => ds) 5 m_around := by
  obtain ⟨fd, F⟩ := T.sy.def_ 42 (d := d_around) rfl
  exact jf_mkN F fs_around sc_around (T.glo 66) ⟨rfl, by decide, by decide⟩ (fun _ _ _ _ _ _ us hl => match us, hl with | [_], _ => rfl) (fun X W d => body_around T d)
theorem body_look_spoke (T : Tp fa fn bx K mg) {X : Cx} {W : WX} (d : JD P w K mg base nm_look_spoke (defScope (top 41)) vw_look_spoke 5 X W) : JB X W (defBody (top 41)) t_look_spoke :=
  jb_one (js_if (jt_w (jw_or (jt_not (jt_tru (je_call d.toJC (Tj_is_fraction T) (by decide) (mm 0) (ja_cons (jv d.toJC 1 (mm 1) rfl) (ja_nil))))) (jw_or (jt_cmp opD_lt (je_ix (jv d.toJC 1 (mm 1) rfl) (je_int)) (je_int) rfl) (jw_or1 (jt_tru (je_call d.toJC (Tj_is_less T) (by decide) (mm 1) (ja_cons (je_call d.toJC (Tj_around T) (by decide) (mm 2) (ja_cons (jv d.toJC 0 (mm 0) rfl) (ja_nil))) (ja_cons (jv d.toJC 1 (mm 1) rfl) (ja_nil))))))))) (jb_one (js_raiseF' d.toJC (by decide) PySem.F.excBase_LookupError PySem.F.store_LookupError (mm 3) (T.sy.fact 34 rfl) (T.glo 34) (all_at T.bx 4 rfl) (T.sy.def_ 49 (d := d_init_NoSpoke) rfl) ⟨_, _, _, _, rfl⟩ fi_NoSpoke (.inl (by decide +kernel)) (.inl (by decide +kernel)) (fun _ _ _ _ _ _ us hl => match us, hl with | [_, _], _ => rfl) (jv d.toJC 1 (mm 1) rfl))) (jb_nil))
theorem Tj_look_spoke (T : Tp fa fn bx K mg) : JF P w K mg base "look_spoke" 2 [] (fun ds _ => ds) 6 m_look_spoke := by
  obtain ⟨fd, F⟩ := T.sy.def_ 43 (d := d_look_spoke) rfl
  exact jf_mkN F fs_look_spoke sc_look_spoke (T.glo 36) ⟨rfl, by decide, by decide⟩ (fun _ _ _ _ _ _ us hl => match us, hl with | [_, _], _ => rfl) (fun X W d => body_look_spoke T d)
theorem body_spoke (T : Tp fa fn bx K mg) {X : Cx} {W : WX} (d : JD P w K mg base nm_spoke (defScope (top 42)) vw_spoke 6 X W) : JB X W (defBody (top 42)) t_spoke :=
  jb_cons (js_expr (je_call d.toJC (Tj_look_spoke T) (by decide) (mm 0) (ja_cons (jv d.toJC 0 (mm 0) rfl) (ja_cons (jv d.toJC 1 (mm 1) rfl) (ja_nil))))) (jb_cons (js_for d (ji_zipR d.toJC (mm 1) (T.free 37) (mm 2) (T.free 38) (je_call d.toJC (Tj_beginnings T) (by decide) (mm 3) (ja_cons (jv d.toJC 0 (mm 0) rfl) (ja_nil))) (je_call d.toJC (Tj_faces T) (by decide) (mm 4) (ja_cons (jv d.toJC 0 (mm 0) rfl) (ja_nil)))) (jg_tup d.toJC.calm (jgs_cons (jg_name d.toJC 2 rfl (.inl (d.toJC.sC.loc 2 (mm 2) _ rfl))) (jgs_cons (jg_name d.toJC 3 rfl (.inl (d.toJC.sC.loc 3 (mm 3) _ rfl))) (jgs_nil)))) (jb_one (js_if (jt_not (jt_tru (je_call d.toJC (Tj_is_less T) (by decide) (mm 5) (ja_cons (jv d.toJC 1 (mm 1) rfl) (ja_cons (jv d.toJC 2 (mm 2) rfl) (ja_nil)))))) (jb_one (js_ret (je_call d.toJC (Tj_spoke_of T) (by decide) (mm 6) (ja_cons (jv d.toJC 3 (mm 3) rfl) (ja_cons (je_call d.toJC (Tj_minus T) (by decide) (mm 7) (ja_cons (jv d.toJC 1 (mm 1) rfl) (ja_cons (jv d.toJC 2 (mm 2) rfl) (ja_nil)))) (ja_nil)))))) (jb_nil)))) (jb_one (js_raiseF' d.toJC (by decide) PySem.F.excBase_LookupError PySem.F.store_LookupError (mm 8) (T.sy.fact 34 rfl) (T.glo 34) (all_at T.bx 4 rfl) (T.sy.def_ 49 (d := d_init_NoSpoke) rfl) ⟨_, _, _, _, rfl⟩ fi_NoSpoke (.inl (by decide +kernel)) (.inl (by decide +kernel)) (fun _ _ _ _ _ _ us hl => match us, hl with | [_, _], _ => rfl) (jv d.toJC 1 (mm 1) rfl))))
theorem Tj_spoke (T : Tp fa fn bx K mg) : JF P w K mg base "spoke" 2 [] (fun ds _ => ds) 7 m_spoke := by
  obtain ⟨fd, F⟩ := T.sy.def_ 44 (d := d_spoke) rfl
  exact jf_mkN F fs_spoke sc_spoke (T.glo 23) ⟨rfl, by decide, by decide⟩ (fun _ _ _ _ _ _ us hl => match us, hl with | [_, _], _ => rfl) (fun X W d => body_spoke T d)
theorem body_l_refused (T : Tp fa fn bx K mg) {X : Cx} {W : WX} (d : JD P w K mg base nm_l_refused (defScope (top 63)) vw_l_refused 7 X W) : JB X W (defBody (top 63)) t_l_refused :=
  jb_cons (js_tryF d 2 rfl (mm 2) (mm 1) (T.glo 34) (fun nm b Cn h hn => by obtain ⟨rfl, rfl⟩ := sbOne_eq h; rw [← ga_eq hn]; exact He.exm_ok (T.sy.fact 35 rfl)) (fun _ _ d => jb_one (js_expr (je_call d.toJC (Tj_spoke T) (by decide) (mm 0) (ja_cons (jv d.toJC 0 (mm 0) rfl) (ja_cons (jv d.toJC 1 (mm 1) rfl) (ja_nil)))))) (fun _ _ _ => (by (repeat' first | exact moNx | exact moRetN | refine moSeq ?_ ?_ | refine moAsg ?_ | refine moRet ?_ | refine moIfS ?_ ?_ ?_ | exact moVr _ | exact moCn _ | exact moNilA | exact moIsF | exact moXf | exact moEqT | refine moB bStrG_mo ?_ | refine moTwo ?_ ?_ ?_ | refine moConsA ?_ ?_ | refine moTbl ?_ | refine moTtr ?_ | refine moNotD ?_ | refine moVOf ?_ | refine moEIf ?_ ?_ ?_))) (fun X2 a dd Dc nm h hn c => by obtain ⟨rfl, _⟩ := sbOne_eq h; have ee := ga_eq hn; subst ee; exact jb_cons (js_set0 c.toJC0 3 rfl (mm 3) (je_isTF c 2 (excC_ok (all_at T.bx 0 rfl)) (mm 2) rfl (mm 2) (T.free 24) (pcls_cons c.toJC0 (mm 3) (clU_own (T.sy.fact 30 rfl) (T.glo 30)) (pcls_cons c.toJC0 (mm 4) (clU_own (T.sy.fact 29 rfl) (T.glo 29)) (pcls_cons c.toJC0 (mm 5) (clU_own (T.sy.fact 28 rfl) (T.glo 28)) (pcls_cons c.toJC0 (mm 6) (clU_own (T.sy.fact 27 rfl) (T.glo 27)) (pcls_cons c.toJC0 (mm 7) (clU_own (T.sy.fact 26 rfl) (T.glo 26)) (pcls_cons c.toJC0 (mm 8) (clU_own (T.sy.fact 25 rfl) (T.glo 25)) pcls_nil)))))) (Nat.le_of_ble_eq_true rfl) (fun _ h => by cases h; exact of_decide_eq_true (all_at T.bx 1 rfl)))) (jb_one (js_ret (je_and (je_isF c 2 (excC_ok (all_at T.bx 0 rfl)) (mm 2) rfl (mm 2) (T.free 24) (mm 9) (clU_blt (T := "LookupError") (T.sy.fact 31 rfl) (T.free 31) (by decide +kernel)) (fun _ h => by cases h; exact of_decide_eq_true (all_at T.bx 2 rfl))) (je_and (je_not (jv0 c.toJC0 3 (mm 3) rfl)) (je_one (je_cmp opD_eqT (je_callTy0 c.toJC0 (cd_strG (c.gs rfl) c.un) (mm 10) (T.free 32) (by decide +kernel) (ja_cons (je_xf c 2 (xfB_ok (all_at T.bx 3 rfl)) (He.eqO_ok (T.sy.fact 33 rfl)) (mm 2) rfl) (ja_nil))) (je_callTy0 c.toJC0 (cd_strG (c.gs rfl) c.un) (mm 10) (T.free 32) (by decide +kernel) (ja_cons (jv0 c.toJC0 1 (mm 1) rfl) (ja_nil))) rfl)))))))) (jb_one (js_ret (je_bl)))
theorem Tj_l_refused (T : Tp fa fn bx K mg) : JQ P w K mg base "_law_refused" 2 8 m_l_refused := by
  obtain ⟨fd, F⟩ := T.sy.def_ 45 (d := d_l_refused) rfl
  exact jg_mk F fs_l_refused sc_l_refused (T.glo 9) ⟨rfl, by decide, by decide⟩ (by decide +kernel) (fun _ _ _ _ _ _ us hl => match us, hl with | [_, _], _ => rfl) (fun X W d => body_l_refused T d)
theorem body_l_direction (T : Tp fa fn bx K mg) {X : Cx} {W : WX} (d : JD P w K mg base nm_l_direction (defScope (top 60)) vw_l_direction 1 X W) : JB X W (defBody (top 60)) t_l_direction :=
  jb_cons (js_asg (jv d.toJC 0 (mm 0) rfl) (jg_tup d.toJC.calm (jgs_cons (jg_name d.toJC 2 rfl (.inl (d.toJC.sC.loc 2 (mm 2) _ rfl))) (jgs_cons (jg_name d.toJC 3 rfl (.inl (d.toJC.sC.loc 3 (mm 3) _ rfl))) (jgs_nil))))) (jb_cons (js_for d (ji_r1 d.toJC (mm 0) (T.free 0) (ja_cons (je_op opD_div (je_ix (jv d.toJC 1 (mm 1) rfl) (je_int)) (je_ix (jv d.toJC 1 (mm 1) rfl) (je_int))) (ja_nil))) (jg_name d.toJC 4 rfl (.inl (d.toJC.sC.loc 4 (mm 4) _ rfl))) (jb_one (js_par d.toJC 2 3 rfl rfl (by decide) (d.toJC.sC.loc 2 (mm 2) _ rfl) (d.toJC.sC.loc 3 (mm 3) _ rfl) (ja_cons (je_op opD_sub (je_int) (jv d.toJC 3 (mm 3) rfl)) (ja_cons (jv d.toJC 2 (mm 2) rfl) (ja_nil))) (sw2 d.toJC.kd (by rw [d.toJC.ss]; exact (d.toJC.sC.loc 2 (mm 2) _ rfl)) (by rw [d.toJC.ss]; exact (d.toJC.sC.loc 3 (mm 3) _ rfl)) rfl (by decide +kernel) rfl rfl rfl)))) (jb_cons (js_set d.toJC 5 rfl (.inl (d.toJC.sC.loc 5 (mm 5) _ rfl)) (je_call d.toJC (Tj_l_root_of T) (by decide) (mm 1) (ja_cons (je_op opD_add (je_op opD_mul (jv d.toJC 2 (mm 2) rfl) (jv d.toJC 2 (mm 2) rfl)) (je_op opD_mul (jv d.toJC 3 (mm 3) rfl) (jv d.toJC 3 (mm 3) rfl))) (ja_nil)))) (jb_cons (js_par d.toJC 6 7 rfl rfl (by decide) (d.toJC.sC.loc 6 (mm 6) _ rfl) (d.toJC.sC.loc 7 (mm 7) _ rfl) (ja_cons (je_op opD_mod (je_ix (jv d.toJC 1 (mm 1) rfl) (je_int)) (je_ix (jv d.toJC 1 (mm 1) rfl) (je_int))) (ja_cons (je_ix (jv d.toJC 1 (mm 1) rfl) (je_int)) (ja_nil))) (sw2 d.toJC.kd (by rw [d.toJC.ss]; exact (d.toJC.sC.loc 6 (mm 6) _ rfl)) (by rw [d.toJC.ss]; exact (d.toJC.sC.loc 7 (mm 7) _ rfl)) rfl (by decide +kernel) rfl rfl rfl)) (jb_cons (js_par d.toJC 8 9 rfl rfl (by decide) (d.toJC.sC.loc 8 (mm 8) _ rfl) (d.toJC.sC.loc 9 (mm 9) _ rfl) (ja_cons (je_op opD_sub (je_op opD_mul (jv d.toJC 7 (mm 7) rfl) (jv d.toJC 7 (mm 7) rfl)) (je_op opD_mul (jv d.toJC 6 (mm 6) rfl) (jv d.toJC 6 (mm 6) rfl))) (ja_cons (je_op opD_mul (je_op opD_mul (je_int) (jv d.toJC 6 (mm 6) rfl)) (jv d.toJC 7 (mm 7) rfl)) (ja_nil))) (sw2 d.toJC.kd (by rw [d.toJC.ss]; exact (d.toJC.sC.loc 8 (mm 8) _ rfl)) (by rw [d.toJC.ss]; exact (d.toJC.sC.loc 9 (mm 9) _ rfl)) rfl (by decide +kernel) rfl rfl rfl)) (jb_cons (js_set d.toJC 10 rfl (.inl (d.toJC.sC.loc 10 (mm 10) _ rfl)) (je_op opD_mul (je_op opD_add (je_op opD_mul (jv d.toJC 7 (mm 7) rfl) (jv d.toJC 7 (mm 7) rfl)) (je_op opD_mul (jv d.toJC 6 (mm 6) rfl) (jv d.toJC 6 (mm 6) rfl))) (jv d.toJC 5 (mm 5) rfl))) (jb_one (js_ret (je_tup (ja_cons (je_call d.toJC (Tj_l_low T) (by decide) (mm 2) (ja_cons (je_op opD_sub (je_op opD_mul (jv d.toJC 2 (mm 2) rfl) (jv d.toJC 8 (mm 8) rfl)) (je_op opD_mul (jv d.toJC 3 (mm 3) rfl) (jv d.toJC 9 (mm 9) rfl))) (ja_cons (jv d.toJC 10 (mm 10) rfl) (ja_nil)))) (ja_cons (je_call d.toJC (Tj_l_low T) (by decide) (mm 2) (ja_cons (je_op opD_add (je_op opD_mul (jv d.toJC 3 (mm 3) rfl) (jv d.toJC 8 (mm 8) rfl)) (je_op opD_mul (jv d.toJC 2 (mm 2) rfl) (jv d.toJC 9 (mm 9) rfl))) (ja_cons (jv d.toJC 10 (mm 10) rfl) (ja_nil)))) (ja_nil)))))))))))
theorem Tj_l_direction (T : Tp fa fn bx K mg) : JF P w K mg base "_law_direction" 2 [] (fun ds _ => ds) 2 m_l_direction := by
  obtain ⟨fd, F⟩ := T.sy.def_ 46 (d := d_l_direction) rfl
  exact jf_mkN F fs_l_direction sc_l_direction (T.glo 72) ⟨rfl, by decide, by decide⟩ (fun _ _ _ _ _ _ us hl => match us, hl with | [_, _], _ => rfl) (fun X W d => body_l_direction T d)
theorem body_l_joins_right (T : Tp fa fn bx K mg) {X : Cx} {W : WX} (d : JD P w K mg base nm_l_joins_right (defScope (top 64)) vw_l_joins_right 7 X W) : JB X W (defBody (top 64)) t_l_joins_right :=
  jb_cons (js_set d.toJC 1 rfl (.inl (d.toJC.sC.loc 1 (mm 1) _ rfl)) (je_tup (ja_cons (je_int) (ja_cons (je_int) (ja_nil))))) (jb_cons (js_set d.toJC 2 rfl (.inl (d.toJC.sC.loc 2 (mm 2) _ rfl)) (je_call d.toJC (Tj_l_faces T) (by decide) (mm 0) (ja_cons (jv d.toJC 0 (mm 0) rfl) (ja_nil)))) (jb_cons (js_for d (ji_enum d.toJC (mm 1) (T.free 71) (jv d.toJC 2 (mm 2) rfl)) (jg_tup d.toJC.calm (jgs_cons (jg_name d.toJC 3 rfl (.inl (d.toJC.sC.loc 3 (mm 3) _ rfl))) (jgs_cons (jg_name d.toJC 4 rfl (.inl (d.toJC.sC.loc 4 (mm 4) _ rfl))) (jgs_nil)))) (jb_cons (js_set d.toJC 1 rfl (.inl (d.toJC.sC.loc 1 (mm 1) _ rfl)) (je_call d.toJC (Tj_l_plus T) (by decide) (mm 2) (ja_cons (jv d.toJC 1 (mm 1) rfl) (ja_cons (je_call d.toJC (Tj_l_length T) (by decide) (mm 3) (ja_cons (jv d.toJC 4 (mm 4) rfl) (ja_nil))) (ja_nil))))) (jb_cons (js_asg (je_call d.toJC (Tj_spoke T) (by decide) (mm 4) (ja_cons (jv d.toJC 0 (mm 0) rfl) (ja_cons (jv d.toJC 1 (mm 1) rfl) (ja_nil)))) (jg_tup d.toJC.calm (jgs_cons (jg_name d.toJC 5 rfl (.inl (d.toJC.sC.loc 5 (mm 5) _ rfl))) (jgs_cons (jg_name d.toJC 6 rfl (.inl (d.toJC.sC.loc 6 (mm 6) _ rfl))) (jgs_nil))))) (jb_cons (js_set d.toJC 7 rfl (.inl (d.toJC.sC.loc 7 (mm 7) _ rfl)) (je_ix (jv d.toJC 2 (mm 2) rfl) (je_op opD_mod (je_op opD_add (jv d.toJC 3 (mm 3) rfl) (je_int)) (je_callB d.toJC cd_len (mm 5) (T.free 2) (by decide +kernel) (ja_cons (jv d.toJC 2 (mm 2) rfl) (ja_nil)))))) (jb_cons (js_set d.toJC 8 rfl (.inl (d.toJC.sC.loc 8 (mm 8) _ rfl)) (je_ifExp (jt_cmp (opD_eq d.toJC.room) (je_ix (jv d.toJC 7 (mm 7) rfl) (je_int)) (je_str) rfl) (je_ix (jv d.toJC 7 (mm 7) rfl) (je_int)) (je_call d.toJC (Tj_l_right T) (by decide) (mm 6) (ja_cons (je_ix (jv d.toJC 7 (mm 7) rfl) (je_int)) (ja_cons (je_ix (jv d.toJC 7 (mm 7) rfl) (je_int)) (ja_nil)))))) (jb_cons (js_if (jt_cmp (opD_ne d.toJC.room) (jv d.toJC 6 (mm 6) rfl) (je_call d.toJC (Tj_l_direction T) (by decide) (mm 7) (ja_cons (jv d.toJC 8 (mm 8) rfl) (ja_cons (je_tup (ja_cons (je_int) (ja_cons (je_int) (ja_nil)))) (ja_nil)))) rfl) (jb_one (js_ret (je_bl))) (jb_nil)) (jb_one (js_if (jt_w (jw_and (jt_cmp (opD_eq d.toJC.room) (je_ix (jv d.toJC 4 (mm 4) rfl) (je_int)) (je_str) rfl) (jw_and1 (jt_cmp (opD_ne d.toJC.room) (jv d.toJC 5 (mm 5) rfl) (je_tup (ja_cons (je_tup (ja_cons (je_ix (je_ix (jv d.toJC 4 (mm 4) rfl) (je_int)) (je_int)) (ja_cons (je_int) (ja_nil)))) (ja_cons (je_tup (ja_cons (je_ix (je_ix (jv d.toJC 4 (mm 4) rfl) (je_int)) (je_int)) (ja_cons (je_int) (ja_nil)))) (ja_nil)))) rfl)))) (jb_one (js_ret (je_bl))) (jb_nil))))))))) (jb_one (js_ret (je_cmp (opD_eq d.toJC.room) (je_call d.toJC (Tj_spoke T) (by decide) (mm 4) (ja_cons (jv d.toJC 0 (mm 0) rfl) (ja_cons (je_tup (ja_cons (je_int) (ja_cons (je_int) (ja_nil)))) (ja_nil)))) (je_call d.toJC (Tj_spoke T) (by decide) (mm 4) (ja_cons (jv d.toJC 0 (mm 0) rfl) (ja_cons (je_call d.toJC (Tj_around T) (by decide) (mm 8) (ja_cons (jv d.toJC 0 (mm 0) rfl) (ja_nil))) (ja_nil)))) rfl)))))
theorem Tj_l_joins_right (T : Tp fa fn bx K mg) : JF P w K mg base "_law_joins_right" 1 [] (fun ds _ => ds) 8 m_l_joins_right := by
  obtain ⟨fd, F⟩ := T.sy.def_ 47 (d := d_l_joins_right) rfl
  exact jf_mkN F fs_l_joins_right sc_l_joins_right (T.glo 10) ⟨rfl, by decide, by decide⟩ (fun _ _ _ _ _ _ us hl => match us, hl with | [_], _ => rfl) (fun X W d => body_l_joins_right T d)
theorem body_law (T : Tp fa fn bx K mg) {X : Cx} {W : WX} (d : JD P w K mg base nm_law (defScope (top 65)) vw_law 8 X W) : JB X W (defBody (top 65)) t_law :=
  jb_cons (js_for d (ji_r1 d.toJC (mm 0) (T.free 0) (ja_cons (je_op opD_add (je_int) (je_callB d.toJC (cd_min d.toJC.calm) (mm 1) (T.free 1) (by decide +kernel) (ja_cons (je_int) (ja_cons (je_callB d.toJC cd_len (mm 2) (T.free 2) (by decide +kernel) (ja_cons (jv d.toJC 0 (mm 0) rfl) (ja_nil))) (ja_nil))))) (ja_nil))) (jg_name d.toJC 1 rfl (.inl (d.toJC.sC.loc 1 (mm 1) _ rfl))) (jb_cons (js_set d.toJC 2 rfl (.inl (d.toJC.sC.loc 2 (mm 2) _ rfl)) (je_call d.toJC (Tj_l_bag T) (by decide) (mm 3) (ja_cons (jv d.toJC 0 (mm 0) rfl) (ja_cons (jv d.toJC 1 (mm 1) rfl) (ja_nil))))) (jb_one (js_for d (ji_r1 d.toJC (mm 0) (T.free 0) (ja_cons (je_int) (ja_nil))) (jg_name d.toJC 3 rfl (.inl (d.toJC.sC.loc 3 (mm 3) _ rfl))) (jb_cons (js_set d.toJC 4 rfl (.inr ⟨d.toJC.sC.cel 4 (mm 0) _ rfl, d.fn⟩) (je_call d.toJC (Tj_l_thing T) (by decide) (mm 4) (ja_cons (jv d.toJC 2 (mm 2) rfl) (ja_cons (je_int) (ja_nil))))) (jb_cons (js_set d.toJC 5 rfl (.inl (d.toJC.sC.loc 5 (mm 4) _ rfl)) (je_call d.toJC (Tj_l_around T) (by decide) (mm 5) (ja_cons (jv d.toJC 4 (mm 4) rfl) (ja_nil)))) (jb_cons (js_set d.toJC 6 rfl (.inl (d.toJC.sC.loc 6 (mm 5) _ rfl)) (je_ix (je_lst (ja_cons (je_int) (ja_cons (je_op opD_pow (je_int) (je_int)) (ja_cons (je_op opD_pow (je_int) (je_int)) (ja_nil))))) (je_call d.toJC (Tj_l_take T) (by decide) (mm 6) (ja_cons (jv d.toJC 2 (mm 2) rfl) (ja_cons (je_int) (ja_nil)))))) (jb_cons (js_set d.toJC 7 rfl (.inl (d.toJC.sC.loc 7 (mm 6) _ rfl)) (je_lst (ja_cons (je_call d.toJC (Tj_l_plus T) (by decide) (mm 7) (ja_cons (jv d.toJC 5 (mm 5) rfl) (ja_cons (je_tup (ja_cons (je_int) (ja_cons (jv d.toJC 6 (mm 6) rfl) (ja_nil)))) (ja_nil)))) (ja_cons (je_tup (ja_cons (je_neg (je_int)) (ja_cons (jv d.toJC 6 (mm 6) rfl) (ja_nil)))) (ja_cons (je_call d.toJC (Tj_l_plus T) (by decide) (mm 7) (ja_cons (jv d.toJC 5 (mm 5) rfl) (ja_cons (je_tup (ja_cons (jv d.toJC 6 (mm 6) rfl) (ja_cons (je_int) (ja_nil)))) (ja_nil)))) (ja_cons (je_tup (ja_cons (je_int) (ja_cons (je_int) (ja_nil)))) (ja_cons (je_tup (ja_cons (je_int) (ja_cons (je_int) (ja_nil)))) (ja_cons (je_tup (ja_cons (je_int) (ja_cons (je_int) (ja_nil)))) (ja_cons (je_tup (ja_cons (je_int) (ja_cons (je_neg (je_int)) (ja_nil)))) (ja_cons (je_int) (ja_nil))))))))))) (jb_cons (js_set d.toJC 7 rfl (.inl (d.toJC.sC.loc 7 (mm 6) _ rfl)) (je_op opD_cat (jv d.toJC 7 (mm 7) rfl) (je_lst (ja_cons (je_tup (ja_cons (je_ix (jv d.toJC 5 (mm 5) rfl) (je_int)) (ja_nil))) (ja_cons (je_tup (ja_cons (je_bl) (ja_cons (je_int) (ja_nil)))) (ja_cons (je_tup (ja_cons (je_int) (ja_cons (je_bl) (ja_nil)))) (ja_cons (je_tup (ja_cons (je_int) (ja_cons (je_str) (ja_nil)))) (ja_cons (je_lst (ja_cons (je_int) (ja_cons (je_int) (ja_nil)))) (ja_cons (je_non) (ja_cons (je_str) (ja_cons (je_tup (ja_cons (je_int) (ja_cons (je_int) (ja_cons (je_int) (ja_nil))))) (ja_cons (je_tup (ja_cons (je_tup (ja_cons (je_int) (ja_cons (je_int) (ja_nil)))) (ja_nil))) (ja_cons (je_int) (ja_nil)))))))))))))) (jb_one (js_if (jt_w (jw_or (jt_not (jt_tru (je_callB d.toJC (cd_all d.toJC.calm) (mm 8) (T.free 8) (by decide +kernel) (ja_cons (je_lc d.toJC (own := [(".0", 8), ("_law_one", 9)]) (vw2 := vb0_law) (by decide +kernel) (scOf (by decide +kernel)) (by decide) (ji_val (jv d.toJC 7 (mm 7) rfl)) (fun _ c0 => jg_name c0 9 rfl (.inl (c0.sC.loc 9 (mm 1) _ rfl))) (fun _ c0 => jts_nil) (fun _ c0 => je_callG c0 rfl (Tj_l_refused T) (by decide) (mm 0) (ja_cons (jv c0 4 (mm 0) rfl) (ja_cons (jv c0 9 (mm 2) rfl) (ja_nil)))) (by walk_at "mo" <;> first | with_reducible exact (Tj_l_refused (P := P) (w := w) (base := base) T).mo) (by walk_at "mo" <;> first | with_reducible exact (Tj_l_refused (P := P) (w := w) (base := base) T).mo)) (ja_nil))))) (jw_or1 (jt_not (jt_tru (je_call d.toJC (Tj_l_joins_right T) (by decide) (mm 9) (ja_cons (jv d.toJC 4 (mm 4) rfl) (ja_nil)))))))) (jb_one (js_ret (je_bl))) (jb_nil)))))))))))) (jb_one (js_ret (je_bl)))
theorem ok_law (T : Tp fa fn bx K mg) {f : Addr} {fd : FuncData} (F : FunD K d_law.name d_law.qual d_law.params d_law.body d_law.scope (d_law.dvs K) (d_law.kws K) f fd) : GOk P w K mg base 9 f fd ["_law_script"] (LSp K 1 m_law) :=
  gok_of F fs_law sc_law (by decide +kernel) fun X W d => body_law T d
theorem mo_law {P : Program} {w : World} {base : Heap} (T : Tp fa fn bx K mg) : MoF m_law := moFn (moS_of (k := 8) (P := P) (w := w) (base := base) fs_law sc_law ⟨rfl, by decide, by decide⟩ fun X W d => body_law T d)
end
end K11

namespace K11
open PySem PySem.Spec PyProof.Rows L2 Bl Lb
/-- what is raised of an odd one -/
abbrev Raised (d : D) (S : Sto) (E : EK) : Prop := ∀ dd, S dd = none → E ⟨"NoSpoke", [("z", d)]⟩ (sup S dd (xdC [("z", d)]))
theorem raise_go {d : D} {e : Ev} {S : Sto} {N : Nd} (h : e[1]? = some (some d)) (k : ∀ dd, S dd = none → N.ex ⟨"NoSpoke", [("z", d)]⟩ e (sup S dd (xdC [("z", d)]))) : sRaiseF "NoSpoke" "z" (vr 1) e S N := by
  unfold sRaiseF vr
  rw [h]
  exact k
theorem look_not {t : Th} {d : D} {S : Sto} {Q : DK} {E : EK} (h : ∀ (S : Sto) (Q : DK) (E : EK), Q (.bl false) S → m_is_fraction [d] S Q E) (k : Raised d S E) : m_look_spoke [thD t, d] S Q E := by
  refine e_look_spoke ?_
  unfold t_look_spoke
  walk_at "bl"
  refine h _ _ _ ?_
  walk_at "bl"
  exact raise_go rfl k
theorem look_low {t : Th} {z : Rat} {n : Nat} {S : Sto} {Q : DK} {E : EK} (hz : sr n z) (z0 : z < 0) (k : Raised (fr z) S E) : m_look_spoke [thD t, fr z] S Q E := by
  refine e_look_spoke ?_
  unfold t_look_spoke
  walk_at "bl"
  refine is_fraction_fr hz ?_
  walk_at "bl"
  refine Go.ifDT (by have := Rat.num_nonneg (q := z); grind) ?_
  walk_at "bl"
  exact raise_go rfl k
theorem look_far {t : Th} {z : Rat} {n : Nat} {S : Sto} {Q : DK} {E : EK} (ht : GoodTh t) (hz : sr n z) (hn : n ≤ 3000) (z1 : aroundR t < z) (k : Raised (fr z) S E) : m_look_spoke [thD t, fr z] S Q E := by
  refine e_look_spoke ?_
  unfold t_look_spoke
  have z0 : 0 ≤ z := by have := (around_le ht).1; grind
  walk_at "bl"
  refine is_fraction_fr hz ?_
  walk_at "bl"
  refine Go.ifDF (by have := Rat.num_nonneg.mpr z0; omega) ?_
  walk_at "bl"
  refine around_spec ht ?_
  walk_at "bl"
  refine less_mn (aroundR_sr' ht) hz (by omega) ?_
  walk_at "bl"
  refine Go.ifDT z1 ?_
  walk_at "bl"
  exact raise_go rfl k
theorem look_ok {t : Th} {z : Rat} {n : Nat} {S : Sto} {Q : DK} {E : EK} (ht : GoodTh t) (hz : sr n z) (hn : n ≤ 3000) (z0 : 0 ≤ z) (z1 : z ≤ aroundR t) (k : Q .non S) : m_look_spoke [thD t, fr z] S Q E := by
  refine e_look_spoke ?_
  unfold t_look_spoke
  walk_at "bl"
  refine is_fraction_fr hz ?_
  walk_at "bl"
  refine Go.ifDF (by have := Rat.num_nonneg.mpr z0; omega) ?_
  walk_at "bl"
  refine around_spec ht ?_
  walk_at "bl"
  refine less_mn (aroundR_sr' ht) hz (by omega) ?_
  walk_at "bl"
  refine Go.ifDF (Rat.not_lt.mpr z1) ?_
  walk_at "bl"
  exact k
/-! ### what is no fraction -/
theorem frac_pair {a b : Int} {S : Sto} {Q : DK} {E : EK} (h : b ≤ 0 ∨ 0 < b ∧ Int.gcd a b ≠ 1) (ha : sm 10 a) (hb : sm 10 b) (k : Q (.bl false) S) : m_is_fraction [pr a b] S Q E := by
  refine e_is_fraction ?_
  unfold t_is_fraction
  walk_at "bl"
  refine are_whole_pr ?_
  walk_at "bl"
  rcases h with h | ⟨h, g⟩
  · refine Go.ifDT (show b < 1 by omega) ?_
    walk_at "bl"
    exact k
  · refine Go.ifDF (by omega) ?_
    walk_at "bl"
    refine gcd_loop (d := pr a b) (n := 10) h ha hb ?_
    rw [decide_eq_false g]
    exact k
def Txt (d : D) (T : Str) : Prop := ∀ (S : Sto) (Q : DK), Q (.str T) S → bStrG [d] S Q
/-- what look_spoke raises of -/
def Odd (t : Th) (d : D) : Prop := ∀ (S : Sto) (Q : DK) (E : EK), Raised d S E → m_look_spoke [thD t, d] S Q E
theorem spoke_odd {t : Th} {d : D} {S : Sto} {Q : DK} {E : EK} (h : Odd t d) (k : Raised d S E) : m_spoke [thD t, d] S Q E := by
  refine e_spoke ?_
  unfold t_spoke
  walk_at "bl"
  exact h _ _ _ k
theorem ndTF_ex {sb : Str → Option Bool} {i : Nat} {u : Addr → Addr → Str → TSd} {N : Nd} {nm : Str} {fs : List (Str × D)} {e : Ev} {S : Sto} (h : sb nm = some true) (hf : fs ≠ []) (k : ∀ a dd, S dd = some (xdC fs) → u a dd nm (e.set i (some (.obj a))) S (ndS i N)) : (ndTF sb i u N).ex ⟨nm, fs⟩ e S := by
  unfold ndTF
  dsimp only
  rw [h]
  exact ⟨hf, k⟩
theorem isF_go {i : Nat} {a dd : Addr} {b : Bool} {e : Ev} {S : Sto} {Q : DK} {E : EK} {fs : List (Str × D)} (h : e[i]? = some (some (.obj a))) (hs : S dd = some (xdC fs)) (k : Q (.bl b) S) : dIsF i a dd (some b) e S Q E := ⟨h, ⟨fs, hs⟩, k⟩
theorem xf_go {i : Nat} {a dd : Addr} {f : Str} {d : D} {e : Ev} {S : Sto} {Q : DK} {E : EK} {fs : List (Str × D)} (h : e[i]? = some (some (.obj a))) (hs : S dd = some (xdC fs)) (hf : fs.lookup f = some d) (k : Q d S) : dXf i a dd f e S Q E := ⟨h, fs, d, hs, hf, k⟩
theorem refused_spec {t : Th} {d : D} {T : Str} {S : Sto} {Q : DK} {E : EK} (hs : Txt d T) (h : Odd t d) (k : ∀ S', Up S S' → Q (.bl true) S') : m_l_refused [thD t, d] S Q E := by
  refine e_l_refused ?_
  unfold t_l_refused
  refine Go.seq ?_
  unfold sTryF
  walk_at "bl"
  refine spoke_odd h fun dd n => ?_
  refine ndTF_ex (by decide) (by simp) fun a dd2 z => ?_
  show sSeq _ _ [some (thD t), some d, some (.obj a), none] _ _
  refine Go.seq ?_
  refine Go.asg ?_
  refine isF_go (by rfl) z ?_
  walk_at "bl"
  refine isF_go (by rfl) z ?_
  walk_at "bl"
  refine xf_go (by rfl) z (by rfl) ?_
  walk_at "bl"
  refine hs _ _ ?_
  walk_at "bl"
  refine hs _ _ ?_
  show (_ : DK) _ _
  refine (show fEqT (.str T) (.str T) _ _ from ?_)
  unfold fEqT
  dsimp only
  rw [decide_eq_true rfl]
  exact k _ (.sup (.refl S) n)
/-- what is no fraction -/
def NoFr (d : D) : Prop := ∀ (S : Sto) (Q : DK) (E : EK), Q (.bl false) S → m_is_fraction [d] S Q E
theorem nofr_of {d : D} (h : ∀ (S : Sto) (Q : DK) (E : EK), Q (.bl false) S → m_are_whole [d, .int 2] S Q E) : NoFr d := fun S Q E k => by
  refine e_is_fraction ?_
  unfold t_is_fraction
  walk_at "bl"
  refine h _ _ _ ?_
  walk_at "bl"
  exact k
theorem nofr_row {d : D} (h : ∀ (S : Sto) (Q : DK) (E : EK), Q (.bl false) S → m_is_row [d, .int 2] S Q E) : NoFr d := nofr_of fun S Q E k => by
  refine e_are_whole ?_
  unfold t_are_whole
  walk_at "bl"
  refine h _ _ _ ?_
  walk_at "bl"
  exact k
theorem nofr_isi {d : D} (h : isiD "tuple" d = some false) : NoFr d := nofr_row fun S Q E k => by
  refine e_is_row ?_
  unfold t_is_row
  walk_at "bl"
  refine Go.isiK' h ?_
  walk_at "bl"
  exact k
theorem nofr_len {ds : List D} (h : ds.length ≠ 2) : NoFr (.tup ds) := nofr_row fun S Q E k => by
  refine e_is_row ?_
  unfold t_is_row
  walk_at "bl"
  refine Go.isiK' (isi_tup _) ?_
  walk_at "bl"
  rw [decide_eq_false (by omega)]
  exact k
theorem no_whole_bl {b : Bool} {S : Sto} {Q : DK} {E : EK} (k : Q (.bl false) S) : m_is_whole [.bl b] S Q E := by
  refine e_is_whole ?_
  unfold t_is_whole
  walk_at "bl"
  refine Go.isiK' (show isiD "int" (.bl b) = some true from by decide +revert) ?_
  walk_at "bl"
  refine Go.isiK' (show isiD "bool" (.bl b) = some true from by decide +revert) ?_
  walk_at "bl"
  exact k
theorem no_whole_str {x : Str} {S : Sto} {Q : DK} {E : EK} (k : Q (.bl false) S) : m_is_whole [.str x] S Q E := by
  refine e_is_whole ?_
  unfold t_is_whole
  walk_at "bl"
  refine Go.isiK' (show isiD "int" (.str x) = some false from rfl) ?_
  walk_at "bl"
  exact k
theorem nofr_two {d e : D} {b c : Bool} (hd : ∀ (S : Sto) (Q : DK) (E : EK), Q (.bl b) S → m_is_whole [d] S Q E) (he : ∀ (S : Sto) (Q : DK) (E : EK), Q (.bl c) S → m_is_whole [e] S Q E) (h : (b && c) = false) : NoFr (.tup [d, e]) := nofr_of fun S Q E k => by
  refine e_are_whole ?_
  unfold t_are_whole
  walk_at "bl"
  refine e_is_row ?_
  unfold t_is_row
  walk_at "bl"
  refine Go.isiK' (isi_tup _) ?_
  walk_at "bl"
  refine Go.ifDT rfl ?_
  walk_at "bl"
  refine hd _ _ _ ?_
  walk_at "bl"
  refine he _ _ _ ?_
  walk_at "bl"
  show Q (.bl (b && (c && true))) S
  rw [Bool.and_true, h]
  exact k
/-! ### the odd ones -/
theorem odd_nofr {t : Th} {d : D} (h : NoFr d) : Odd t d := fun S Q E k => look_not h k
theorem odd_pr {t : Th} {a b : Int} (h : b ≤ 0 ∨ 0 < b ∧ Int.gcd a b ≠ 1) (ha : sm 10 a) (hb : sm 10 b) : Odd t (pr a b) := odd_nofr fun S Q E k => frac_pair h ha hb k
theorem txt_tup {ds : List D} (h : shOk (.tup ds)) : Txt (.tup ds) (py (.tup ds)).shown := fun S Q k => ⟨h, k⟩
theorem txt_lst {ds : List D} (h : shOk (.lst ds)) : Txt (.lst ds) (py (.lst ds)).shown := fun S Q k => ⟨h, k⟩
theorem leaf_int {i : Int} {n : Nat} (h : sm n i) (hn : n ≤ 1900) : i.natAbs.log2 < 1920 := by
  by_cases z : i.natAbs = 0
  · rw [z]; decide +kernel
  · have := (Nat.log2_lt z).mpr (Nat.lt_of_lt_of_le h (Nat.pow_le_pow_right (by decide) hn))
    omega
theorem len_int {i : Int} (h : i.natAbs.log2 < 1920) : (PyData.shown (.int i)).length ≤ 2000 := by
  have := PyProof.Rows.int_text_len_1921 h
  show (Str.ofString (toString i)).length ≤ 2000
  omega
theorem sh_pr {a b : Int} {n : Nat} (ha : sm n a) (hb : sm n b) (hn : n ≤ 1900) : shOk (pr a b) := by
  have la := leaf_int ha hn
  have lb := leaf_int hb hn
  refine ⟨rfl, ?_, rfl, ?_, ?_⟩
  · simp only [py, pyL, PyData.showable, PyData.showableAll, decide_eq_true la, decide_eq_true lb, Bool.and_self]
  · simp only [py, pyL, PyData.depth, PyData.depthAll]
    decide
  · refine Nat.le_trans (PyData.shown_le_bulk 2000 (by decide) _ ?_) ?_
    · simp only [py, pyL, PyData.leavesShort, PyData.leavesShortAll, decide_eq_true (len_int la), decide_eq_true (len_int lb), Bool.and_self]
    · simp only [py, pyL, PyData.bulk, PyData.bulkAll]
      decide
theorem sh_one {a : Int} {n : Nat} (ha : sm n a) (hn : n ≤ 1900) : shOk (.tup [.int a]) := by
  have la := leaf_int ha hn
  refine ⟨rfl, ?_, rfl, ?_, ?_⟩
  · simp only [py, pyL, PyData.showable, PyData.showableAll, decide_eq_true la, Bool.and_self]
  · simp only [py, pyL, PyData.depth, PyData.depthAll]
    decide
  · refine Nat.le_trans (PyData.shown_le_bulk 2000 (by decide) _ ?_) ?_
    · simp only [py, pyL, PyData.leavesShort, PyData.leavesShortAll, decide_eq_true (len_int la), Bool.and_self]
    · simp only [py, pyL, PyData.bulk, PyData.bulkAll]
      decide
theorem sh_k {d : D} (h : (pl d && (py d).showable && !(py d).hasDict && decide ((py d).depth ≤ 16) && (py d).leavesShort 2000 && decide ((py d).bulk ≤ 100)) = true) : shOk d := by
  simp only [Bool.and_eq_true, decide_eq_true_eq, Bool.not_eq_true'] at h
  obtain ⟨⟨⟨⟨⟨h1, h2⟩, h3⟩, h4⟩, h5⟩, h6⟩ := h
  refine ⟨h1, h2, h3, h4, Nat.le_trans (PyData.shown_le_bulk 2000 (by decide) _ h5) ?_⟩
  have e : sizeLine = 16777216 := by decide
  rw [e]
  omega
/-! ### the spokes that are told -/
theorem spoke_ok {t : Th} {z : Rat} {p : Rat × Fc} {n : Nat} {S : Sto} {Q : DK} {E : EK} (ht : GoodTh t) (hz : sr n z) (hn : n ≤ 240) (z0 : 0 ≤ z) (z1 : z ≤ aroundR t) (hp : pickD z (pairsL 0 (facesL t)).reverse = some p) (p0 : 0 ≤ p.1) (k : ∀ S', Up S S' → Q (spD (spokeR p.2 (z - p.1))) S') : m_spoke [thD t, fr z] S Q E := by
  have z9 : z ≤ 100 := by have := (around_le ht).2; grind
  refine e_spoke ?_
  unfold t_spoke
  walk_at "bl"
  refine look_ok ht hz (by omega) z0 z1 ?_
  walk_at "bl"
  refine beginnings_spec ht fun S1 u1 => ?_
  walk_at "bl"
  refine faces_spec ht ?_
  unfold fcsD
  walk_at "bl"
  have hl : (facesL t).length ≤ 4 := by cases t <;> simp [facesL]
  rw [zip_rev _ _ (by rw [List.length_map, List.length_map, marks_len]), zip_pairs, ← List.map_reverse]
  have hg : ∀ q ∈ (pairsL 0 (facesL t)).reverse, FcGood 12 q.2 ∧ sr 172 q.1 := fun q hq => by
    obtain ⟨a, b⟩ := pairs_good (faces_good ht) 0 1 sr.zero hl q (List.mem_reverse.mp hq)
    exact ⟨a, b.mono (by omega)⟩
  refine forD_map (fun xs e s => ∃ o1 o2, e = [some (thD t), some (fr z), o1, o2] ∧ Up S s ∧ pickD z xs = some p ∧ ∀ q ∈ xs, FcGood 12 q.2 ∧ sr 172 q.1) ?_ ?_ _ ⟨none, none, rfl, u1, hp, hg⟩
  · rintro q xs e s ⟨o1, o2, rfl, u, hpk, hq⟩
    refine ⟨_, rfl, fun N' hnx _ hrt _ _ => ?_⟩
    show sIf _ _ _ [some (thD t), some (fr z), some (fr q.1), some (fcD q.2)] _ _
    obtain ⟨g1, g2⟩ := hq q (List.mem_cons_self ..)
    walk_at "bl"
    refine less_mn hz g2 (by omega) ?_
    walk_at "bl"
    refine Go.ifD (fun h => ?_) fun h => ?_
    · walk_at "bl"
      refine hnx _ _ ⟨_, _, rfl, u, ?_, fun q' hq' => hq q' (List.mem_cons_of_mem _ hq')⟩
      rw [← hpk]
      show _ = if z < q.1 then _ else _
      rw [if_pos h]
    · have e : q = p := by
        have : pickD z (q :: xs) = some q := if_neg h
        rw [hpk] at this
        exact (Option.some.inj this).symm
      subst e
      walk_at "bl"
      refine minus_mn hz g2 (by omega) ?_
      walk_at "bl"
      have s0 : 0 ≤ z - q.1 := Rat.le_iff_sub_nonneg _ _ |>.mp (Rat.not_lt.mp h)
      refine spoke_of_spec g1 (sr_sub hz g2) s0 (flq_le (by grind) s0) (by omega) fun S2 u2 => ?_
      walk_at "bl"
      rw [hrt]
      exact k S2 (u.trans u2)
  · rintro e s ⟨o1, o2, rfl, u, hpk, hq⟩
    cases hpk
theorem pick_last {z : Rat} : ∀ (xs : List (Rat × Fc)), pickD z xs = none → ∀ q ∈ xs, z < q.1
  | [], _, q, h => by cases h
  | x :: xs, e, q, h => by
    have e' : (if z < x.1 then pickD z xs else some x) = none := e
    split at e'
    · rcases List.mem_cons.mp h with rfl | h
      · assumption
      · exact pick_last xs e' q h
    · cases e'
theorem pairs_ge : ∀ (fs : List Fc) (r : Rat), (∀ f ∈ fs, 0 ≤ lenR f) → ∀ q ∈ pairsL r fs, r ≤ q.1
  | [], r, _, q, h => by cases h
  | f :: fs, r, hl, q, h => by
    rcases List.mem_cons.mp (show q ∈ (r, f) :: pairsL (r + lenR f) fs from h) with rfl | h
    · exact Rat.le_refl
    · have := pairs_ge fs (r + lenR f) (fun g hg => hl g (List.mem_cons_of_mem _ hg)) q h
      have := hl f (List.mem_cons_self ..)
      grind
/-- of any face on which a spoke lies it is the same -/
theorem pick_any {z : Rat} : ∀ (fs : List Fc) (r : Rat), (∀ f ∈ fs, 0 ≤ lenR f) → Chain fs → ∀ p, pickD z (pairsL r fs).reverse = some p → ∀ q ∈ pairsL r fs, q.1 ≤ z → z ≤ q.1 + lenR q.2 → spokeR p.2 (z - p.1) = spokeR q.2 (z - q.1)
  | [], _, _, _, _, _, q, h, _, _ => by cases h
  | f :: fs, r, hl, hc, p, hp, q, hq, q0, q1 => by
    have hl' : ∀ g ∈ fs, 0 ≤ lenR g := fun g hg => hl g (List.mem_cons_of_mem _ hg)
    have hp' : pickD z ((r, f) :: pairsL (r + lenR f) fs).reverse = some p := hp
    rw [List.reverse_cons, pickD_app] at hp'
    rcases List.mem_cons.mp (show q ∈ (r, f) :: pairsL (r + lenR f) fs from hq) with rfl | hq
    · cases e : pickD z (pairsL (r + lenR f) fs).reverse with
      | none =>
        rw [e] at hp'
        dsimp only at hp' q0
        rw [if_neg (Rat.not_lt.mpr q0)] at hp'
        cases hp'
        rfl
      | some p' =>
        rw [e] at hp'
        cases hp'
        by_cases hz : z < r + lenR f
        · rw [pickD_none fs _ hl' hz] at e
          cases e
        · dsimp only at q1
          have ez : z = r + lenR f := Rat.le_antisymm q1 (Rat.not_lt.mp hz)
          cases fs with
          | nil => cases e
          | cons g gs =>
            have := pick_any (g :: gs) (r + lenR f) hl' hc.2 p e (r + lenR f, g) (List.mem_cons_self ..) (by rw [ez]; exact Rat.le_refl) (by have := hl' g (List.mem_cons_self ..); dsimp only; grind)
            rw [this]
            dsimp only
            have s1 : z - (r + lenR f) = 0 := by grind
            have s2 : z - r = lenR f := by grind
            rw [s1, s2]
            exact hc.1.symm
    · cases e : pickD z (pairsL (r + lenR f) fs).reverse with
      | none =>
        have := pick_last _ e q (List.mem_reverse.mpr hq)
        exact absurd this (Rat.not_lt.mpr q0)
      | some p' =>
        rw [e] at hp'
        cases hp'
        refine pick_any fs (r + lenR f) hl' ?_ p e q hq q0 q1
        exact hc.2
/-- the last face's end is the first one's beginning -/
theorem wraps {t : Th} (h : GoodTh t) : ∀ f g, (facesL t).getLast? = some f → (facesL t).head? = some g → Joins f g := by
  intro f g hf hg
  cases t with
  | spot p =>
    obtain rfl : Fc.round p 0 (1, 0) (1, 0) = f := Option.some.inj hf
    cases hg
    have d : DirOk 12 ((1, 0) : P2) := ⟨by decide, ⟨1, by decide, by decide⟩, by unfold sm; decide, by unfold sm; decide⟩
    show spokeR _ _ = spokeR _ _
    rw [spoke_round1 p d d, spoke_round0]
  | cord p q =>
    obtain rfl : Fc.round p 0 (outw q p) (outw p q) = f := Option.some.inj hf
    cases hg
    obtain ⟨hp, hq, hne, w⟩ := h
    have w' : Whole (far q p) := by rw [far_comm]; exact w
    have o1 := outw_ok hne hp hq w
    have o2 := outw_ok (Ne.symm hne) hq hp w'
    show spokeR _ _ = spokeR _ _
    rw [spoke_round1 p o2 o1, spoke_side0]
  | bow c p q =>
    obtain rfl : Fc.round p 0 (outw q p) (low (dif p c)) = f := Option.some.inj hf
    cases hg
    obtain ⟨hc, hp, hq, hb⟩ := h
    obtain ⟨np, nq⟩ := hb.np
    have w' : Whole (far q p) := by rw [far_comm]; exact hb.wd
    have o2 := outw_ok (Ne.symm hb.ne) hq hp w'
    have d1 := dir_of np hp hc hb.wr
    show spokeR _ _ = spokeR _ _
    rw [spoke_round1 p o2 d1]
    obtain ⟨e1, e2⟩ := arc_point (r := (isq (far c p).toNat : Nat)) np (by omega) hb.wr.isq d1
    show _ = ((((c.1 : Int) : Rat) + _ * (dirU _ 0).1, ((c.2 : Int) : Rat) + _ * (dirU _ 0).2), dirU _ 0)
    rw [dirU_zero, e1, e2]
theorem enum_go {α : Type} {f : α → D} {tg : Tg} {b : TSd} {N : Nd} (P : List α → Nat → Ev → Sto → Prop) (turn : ∀ x xs i env S, P (x :: xs) i env S → ∃ e1, asgT S tg (.tup [.int (i : Int), f x]) env = some e1 ∧ ∀ N' : Nd, (∀ e s, P xs (i + 1) e s → N'.nx e s) → (∀ e s, P xs (i + 1) e s → N'.ct e s) → N'.rt = N.rt → N'.bk = N.nx → N'.ex = N.ex → b e1 S N') (fin : ∀ i env S, P [] i env S → N.nx env S) :
    ∀ (xs : List α) (i : Nat) {env : Ev} {S : Sto}, P xs i env S → forD tg b (((List.range' i xs.length).zipWith (fun (i : Nat) d => D.tup [.int i, d]) (xs.map f))) env S N
  | [], i, env, S, h => fin i env S h
  | x :: xs, i, env, S, h => by
    obtain ⟨e1, ea, hb⟩ := turn x xs i env S h
    rw [List.map_cons, List.length_cons, List.range'_succ, List.zipWith_cons_cons]
    unfold forD
    rw [ea]
    exact hb _ (fun e s q => enum_go P turn fin xs (i + 1) q) (fun e s q => enum_go P turn fin xs (i + 1) q) rfl rfl rfl
theorem sum_app (fs : List Fc) : ∀ (pre : List Fc) (r : Rat), sumR r (pre ++ fs) = sumR (sumR r pre) fs
  | [], _ => rfl
  | f :: pre, r => sum_app fs pre (r + lenR f)
theorem sum_ge : ∀ (fs : List Fc) (r : Rat), (∀ f ∈ fs, 0 ≤ lenR f) → r ≤ sumR r fs
  | [], r, _ => Rat.le_refl
  | f :: fs, r, h => by
    have h1 := h f (List.mem_cons_self ..)
    have h2 := sum_ge fs (r + lenR f) fun g hg => h g (List.mem_cons_of_mem _ hg)
    show r ≤ sumR (r + lenR f) fs
    grind
theorem pairs_mem (x : Fc) (xs : List Fc) : ∀ (pre : List Fc) (r : Rat), (sumR r pre, x) ∈ pairsL r (pre ++ x :: xs)
  | [], r => List.mem_cons_self ..
  | f :: pre, r => List.mem_cons_of_mem _ (pairs_mem x xs pre (r + lenR f))
def firstF : Fc → P2
  | .side a b => outw a b
  | .round _ _ f _ => f
theorem first_dir : ∀ f : Fc, (spokeR f 0).2 = unitR (firstF f)
  | .side a b => by rw [spoke_side0]; rfl
  | .round c r f l => by show dirU f 0 = _; rw [dirU_zero]; rfl
theorem chain_next : ∀ (pre : List Fc) (x y : Fc) (xs : List Fc), Chain (pre ++ x :: y :: xs) → Joins x y
  | [], _, _, _, h => h.1
  | _ :: pre, x, y, xs, h => chain_next pre x y xs h.2
/-- behind each face the next one, in turn -/
theorem next_of {t : Th} (h : GoodTh t) {pre xs : List Fc} {x : Fc} (e : facesL t = pre ++ x :: xs) : ∃ y, ((facesL t).map fcD)[(pre.length + 1) % (facesL t).length]? = some (fcD y) ∧ y ∈ facesL t ∧ Joins x y := by
  have hc := faces_chain h
  have hw := wraps h
  cases xs with
  | nil =>
    rw [e] at hw
    cases hh : (facesL t) with
    | nil => exact absurd hh (faces_ne t)
    | cons y ys =>
      rw [hh] at e
      have hl : (y :: ys).length = pre.length + 1 := by rw [e]; simp
      refine ⟨y, ?_, List.mem_cons_self .., hw x y (by simp) (by rw [← e]; rfl)⟩
      rw [← hl, Nat.mod_self]
      rfl
  | cons y ys =>
    rw [e] at hc
    refine ⟨y, ?_, by rw [e]; simp, chain_next _ _ _ _ hc⟩
    have hl : (facesL t).length = pre.length + (ys.length + 2) := by rw [e]; simp
    rw [Nat.mod_eq_of_lt (by omega), e, List.getElem?_map]
    rw [List.getElem?_append_right (by omega)]
    have : pre.length + 1 - pre.length = 1 := by omega
    rw [this]
    rfl
theorem okN_fr {n : Nat} (r : Rat) : okN (n + 1) (fr r) := okN_pr _ _
theorem okN_pl {n : Nat} (p : Rat × Rat) : okN (n + 2) (pl2 p) := okN_tup (okNs_cons (okN_fr _) (okNs_cons (okN_fr _) okNs_nil))
theorem okN_sp (x : (Rat × Rat) × (Rat × Rat)) : okN 3 (spD x) := okN_tup (okNs_cons (okN_pl _) (okNs_cons (okN_pl _) okNs_nil))
theorem joins_spec {t : Th} {S : Sto} {Q : DK} {E : EK} (ht : GoodTh t) (k : ∀ S', Up S S' → Q (.bl true) S') : m_l_joins_right [thD t] S Q E := by
  refine e_l_joins_right ?_
  unfold t_l_joins_right
  walk_at "bl"
  refine lfaces_spec ht ?_
  unfold fcsD
  walk_at "bl"
  unfold Go.enumK seqD enumD
  dsimp only
  rw [List.length_map, List.range_eq_range']
  refine enum_go (fun zs i e s => ∃ pre o3 o4 o5 o6 o7 o8, e = [some (thD t), some (fr (sumR 0 pre)), some (.tup ((facesL t).map fcD)), o3, o4, o5, o6, o7, o8] ∧ Up S s ∧ facesL t = pre ++ zs ∧ i = pre.length) ?_ ?_ (facesL t) 0 ⟨[], _, _, _, _, _, _, rfl, .refl S, rfl, rfl⟩
  · rintro x xs i e s ⟨pre, o3, o4, o5, o6, o7, o8, rfl, u, ef, rfl⟩
    refine ⟨_, rfl, fun N' hnx _ hrt _ _ => ?_⟩
    show sSeq _ _ [some (thD t), some (fr (sumR 0 pre)), some (.tup ((facesL t).map fcD)), some (.int (pre.length : Int)), some (fcD x), o5, o6, o7, o8] _ _
    have hg := faces_good ht
    have xm : x ∈ facesL t := by rw [ef]; simp
    have gx := hg x xm
    have hl : (facesL t).length ≤ 4 := by cases t <;> simp [facesL]
    have hp : (sumR 0 pre, x) ∈ pairsL 0 (facesL t) := by rw [ef]; exact pairs_mem x xs pre 0
    obtain ⟨_, s0⟩ := pairs_good hg 0 1 sr.zero hl _ hp
    have s0' : sr 172 (sumR 0 pre) := s0.mono (by omega)
    have ln : ∀ f ∈ facesL t, 0 ≤ lenR f := fun f hf => len_nonneg (hg f hf)
    have b0 : 0 ≤ sumR 0 pre := pairs_ge _ 0 ln _ hp
    have lx := ln x xm
    have z1 : sumR 0 pre + lenR x ≤ aroundR t := by
      show _ ≤ sumR 0 (facesL t)
      rw [ef, sum_app]
      exact sum_ge xs _ fun f hf => ln f (by rw [ef]; simp [hf])
    have z0 : 0 ≤ sumR 0 pre + lenR x := by grind
    walk_at "bl"
    refine l_length_spec gx ?_
    walk_at "bl"
    refine lplus_mn s0' (lenR_sr gx) (by decide) ?_
    walk_at "bl"
    have sz : sr 240 (sumR 0 pre + lenR x) := (s0'.add (lenR_sr gx)).mono (by decide)
    obtain ⟨p, _, ep, _, p0, p1, _, _, _⟩ := spokes_same ht z0 z1
    have es := pick_any (facesL t) 0 ln (faces_chain ht) p ep _ hp (by dsimp only; grind) (by dsimp only; exact Rat.le_refl)
    refine spoke_ok ht sz (by decide) z0 z1 ep p0 fun S1 u1 => ?_
    rw [es]
    dsimp only
    have ez : sumR 0 pre + lenR x - sumR 0 pre = lenR x := by grind
    rw [ez]
    obtain ⟨y, ey, ym, jy⟩ := next_of ht ef
    have jy' : spokeR x (lenR x) = spokeR y 0 := jy
    walk_at "bl"
    have n0 : (facesL t).length ≠ 0 := fun z => faces_ne t (List.length_eq_zero_iff.mp z)
    refine Go.mod (by rw [List.length_map]; omega) ?_
    have ix : ((pre.length : Int) + 1).fmod (((facesL t).map fcD).length : Int) = (((pre.length + 1) % (facesL t).length : Nat) : Int) := by
      rw [List.length_map, Int.fmod_eq_emod_of_nonneg _ (by omega), Int.natCast_emod, Int.natCast_add]
      rfl
    rw [ix]
    refine Go.ixT (atI_nat ey) ?_
    walk_at "bl"
    have gy := hg y ym
    have dirs : ∀ (R : EK) (N2 : DK) (S2 : Sto), N2 (pt (firstF y)) S2 → (eIf (tbl (dTwo (dTwo (vr 7) (cn (.int 0)) fIx) (cn (.str "round")) fEq)) (dTwo (vr 7) (cn (.int 3)) fIx) (dCall m_l_right 2 0 (fun ds _ => ds) (aCons (dTwo (vr 7) (cn (.int 1)) fIx) (aCons (dTwo (vr 7) (cn (.int 2)) fIx) (aNil))) aNil)) [some (thD t), some (fr (sumR 0 pre + lenR x)), some (.tup ((facesL t).map fcD)), some (.int (pre.length : Int)), some (fcD x), some (pl2 (spokeR x (lenR x)).1), some (pl2 (spokeR x (lenR x)).2), some (fcD y), o8] S2 N2 R := by
      intro R N2 S2 q
      cases y with
      | side a b =>
        obtain ⟨g1, g2, g3, g4⟩ := gy
        have ew : fcD (.side a b) = .tup [.str "side", pt a, pt b] := rfl
        rw [ew]
        walk_at "bl"
        refine lright_spec g1 g2 g3 ?_
        exact q
      | round c r f l =>
        have ew : fcD (.round c r f l) = .tup [.str "round", pt c, .int r, pt f, pt l] := rfl
        rw [ew]
        walk_at "bl"
        exact q
    refine dirs _ _ _ ?_
    have df : DirOk 12 (firstF y) := by
      cases y with
      | side a b => exact outw_ok gy.1 gy.2.1 gy.2.2.1 gy.2.2.2
      | round c r f l => exact gy.1
    walk_at "bl"
    refine (ldir_spec (s := 0) df (sr.zero (m := 0)) Rat.le_refl (by rw [flq_zero]; decide) (by decide) ?_)
    have ed : (spokeR x (lenR x)).2 = dirU (firstF y) 0 := by rw [jy', first_dir, dirU_zero]
    rw [ed]
    refine ne_refl (n := 2) (okN_pl _) (by decide) ?_
    walk_at "bl"
    have fin : ∀ (o4 : D) (o6 o7 o8 : Option D) (S2 : Sto), Up S1 S2 → N'.nx [some (thD t), some (fr (sumR 0 pre + lenR x)), some (.tup ((facesL t).map fcD)), some (.int (pre.length : Int)), some (fcD x), some o4, o6, o7, o8] S2 := fun o4 o6 o7 o8 S2 u2 => hnx _ _ ⟨pre ++ [x], _, _, _, _, _, _, by rw [sum_app]; rfl, (u.trans u1).trans u2, by rw [ef]; simp, by simp⟩
    cases x with
    | side a b =>
      have ew : fcD (.side a b) = .tup [.str "side", pt a, pt b] := rfl
      rw [ew]
      walk_at "bl"
      rw [spoke_side1]
      refine ne_refl (n := 2) (okN_pl (((b.1 : Int) : Rat), ((b.2 : Int) : Rat))) (by decide) ?_
      walk_at "bl"
      exact fin _ _ _ _ _ (.refl _)
    | round c r f l =>
      have ew : fcD (.round c r f l) = .tup [.str "round", pt c, .int r, pt f, pt l] := rfl
      rw [ew]
      walk_at "bl"
      exact fin _ _ _ _ _ (.refl _)
  · rintro i e s ⟨pre, o3, o4, o5, o6, o7, o8, rfl, u, ef, rfl⟩
    rw [List.append_nil] at ef
    subst ef
    walk_at "bl"
    have hg := faces_good ht
    have ln : ∀ f ∈ facesL t, 0 ≤ lenR f := fun f hf => len_nonneg (hg f hf)
    obtain ⟨w0, w1⟩ := around_le ht
    have hw := aroundR_sr' ht
    obtain ⟨p, _, ep, _, p0, p1, _, _, _⟩ := spokes_same ht Rat.le_refl w0
    obtain ⟨p', _, ep', _, p0', p1', _, _, _⟩ := spokes_same ht w0 Rat.le_refl
    obtain ⟨f0, rest, e0⟩ : ∃ f0 rest, facesL t = f0 :: rest := by
      cases h : facesL t with
      | nil => exact absurd h (faces_ne t)
      | cons a b => exact ⟨a, b, rfl⟩
    obtain ⟨pre, x, e1⟩ : ∃ pre x, facesL t = pre ++ [x] := ⟨(facesL t).dropLast, (facesL t).getLast (faces_ne t), (List.dropLast_concat_getLast (faces_ne t)).symm⟩
    have es := pick_any (facesL t) 0 ln (faces_chain ht) p ep (0, f0) (by rw [e0]; exact List.mem_cons_self ..) Rat.le_refl (by have := ln f0 (by rw [e0]; exact List.mem_cons_self ..); dsimp only; grind)
    have ea : aroundR t = sumR 0 pre + lenR x := by
      show sumR 0 (facesL t) = _
      rw [e1, sum_app]
      rfl
    have lx := ln x (by rw [e1]; simp)
    have es' := pick_any (facesL t) 0 ln (faces_chain ht) p' ep' (sumR 0 pre, x) (by rw [e1]; exact pairs_mem x [] pre 0) (by rw [ea]; dsimp only; grind) (by rw [ea]; exact Rat.le_refl)
    have jw : spokeR x (lenR x) = spokeR f0 0 := wraps ht x f0 (by rw [e1]; simp) (by rw [e0]; rfl)
    dsimp only at es es'
    have ez : aroundR t - sumR 0 pre = lenR x := by rw [ea]; grind
    rw [ez, jw] at es'
    have ez0 : (0 : Rat) - 0 = 0 := by grind
    rw [ez0] at es
    refine spoke_ok (z := 0) ht (sr.zero (m := 0)) (by decide) Rat.le_refl w0 ep p0 fun S1 u1 => ?_
    rw [es]
    walk_at "bl"
    refine around_spec ht ?_
    walk_at "bl"
    refine spoke_ok ht hw (by decide) w0 Rat.le_refl ep' p0' fun S2 u2 => ?_
    rw [es']
    refine eq_refl (n := 3) (okN_sp _) (by decide) ?_
    exact k _ ((u.trans u1).trans u2)
theorem odd_step {t : Th} {d : D} {T : Str} {o0 o1 o2 o3 o5 o6 o7 o8 o9 : Option D} {S : Sto} {R : DK} (hd : Odd t d) (ht : Txt d T) (k : ∀ S', Up S S' → R (.bl true) S') : dCall m_l_refused 2 0 (fun ds _ => ds) (aCons (vr 4) (aCons (vr 9) (aNil))) aNil ([o0, o1, o2, o3, some (thD t), o5, o6, o7, o8, o9].set 9 (some d)) S R EF := by
  show dCall m_l_refused 2 0 (fun ds _ => ds) (aCons (vr 4) (aCons (vr 9) (aNil))) aNil [o0, o1, o2, o3, some (thD t), o5, o6, o7, o8, some d] S R EF
  walk_at "bl"
  exact refused_spec ht hd k
theorem odd_all {t : Th} {te : TEd} {env : Ev} (st : ∀ (d : D) (T : Str) (S : Sto) (R : DK), Odd t d → Txt d T → (∀ S', Up S S' → R (.bl true) S') → te (env.set 9 (some d)) S R EF) : ∀ (ds : List D) (S : Sto) (Q : List D → Sto → Prop), (∀ d ∈ ds, Odd t d ∧ ∃ T, Txt d T) → (∀ S', Up S S' → Q (ds.map fun _ => .bl true) S') → lcGo (.nm 9) tYesD te env ds S Q
  | [], S, Q, _, k => k S (.refl S)
  | d :: ds, S, Q, h, k => by
    obtain ⟨hd, T, ht⟩ := h d (List.mem_cons_self ..)
    unfold lcGo
    refine st d T S _ hd ht fun S1 u1 => ?_
    refine odd_all st ds S1 _ (fun e he => h e (List.mem_cons_of_mem _ he)) fun S2 u2 => ?_
    exact k S2 (u1.trans u2)
/-- the fractions that are drawn -/
structure ByOk (u : Int) : Prop where
  pos : 0 < u
  sm : sm 67 u
  one : ∃ r : Rat, 0 < r ∧ sr 67 r ∧ D.tup [.int 1, .int u] = fr r
  neg : ∃ r : Rat, r < 0 ∧ sr 67 r ∧ D.tup [.int (-1), .int u] = fr r
theorem by_ok {d : Int} (h0 : 0 ≤ d) (h1 : d < 3) : ∃ u, ByOk u ∧ atI [D.int 1, .int (10 ^ Int.toNat 6), .int (10 ^ Int.toNat 20)] d = some (.int u) := by
  rcases (by omega : d = 0 ∨ d = 1 ∨ d = 2) with h | h | h <;> subst h
  · refine ⟨1, ⟨by decide, by unfold sm; decide, ⟨1, by decide, ⟨by unfold sm; decide, by unfold sm; decide⟩, rfl⟩, ⟨-1, by decide, ⟨by unfold sm; decide, by unfold sm; decide⟩, rfl⟩⟩, atI_0⟩
  · refine ⟨10 ^ Int.toNat 6, ⟨by decide, by unfold sm; decide +kernel, ⟨1 / 1000000, by decide +kernel, ⟨by unfold sm; decide +kernel, by unfold sm; decide +kernel⟩, ?_⟩, ⟨-1 / 1000000, by decide +kernel, ⟨by unfold sm; decide +kernel, by unfold sm; decide +kernel⟩, ?_⟩⟩, atI_1⟩
    · rw [show (1 / 1000000 : Rat) = ⟨1, 1000000, by decide, by decide +kernel⟩ from by decide +kernel]
      rfl
    · rw [show (-1 / 1000000 : Rat) = ⟨-1, 1000000, by decide, by decide +kernel⟩ from by decide +kernel]
      rfl
  · refine ⟨10 ^ Int.toNat 20, ⟨by decide +kernel, by unfold sm; decide +kernel, ⟨1 / 100000000000000000000, by decide +kernel, ⟨by unfold sm; decide +kernel, by unfold sm; decide +kernel⟩, ?_⟩, ⟨-1 / 100000000000000000000, by decide +kernel, ⟨by unfold sm; decide +kernel, by unfold sm; decide +kernel⟩, ?_⟩⟩, atI_2⟩
    · rw [show (1 / 100000000000000000000 : Rat) = ⟨1, 100000000000000000000, by decide, by decide +kernel⟩ from by decide +kernel]
      rfl
    · rw [show (-1 / 100000000000000000000 : Rat) = ⟨-1, 100000000000000000000, by decide, by decide +kernel⟩ from by decide +kernel]
      rfl
theorem ods_ok {t : Th} {u : Int} {r1 r2 : Rat} (ht : GoodTh t) (hu : ByOk u) (r1p : 0 < r1) (r1s : sr 67 r1) (r2n : r2 < 0) (r2s : sr 67 r2) (e2 : D.tup [.int (-1), .int u] = fr r2) :
    ∀ d ∈ [fr (aroundR t + r1), D.tup [D.int (-1), D.int u], fr (aroundR t + ((u : Int) : Rat)), D.tup [D.int 0, D.int 2], D.tup [D.int 2, D.int 2], D.tup [D.int 1, D.int 0], D.tup [D.int 1, D.int (-1)], D.int 1] ++
      [D.tup [D.int (aroundR t).num], D.tup [D.bl true, D.int 1], D.tup [D.int 1, D.bl true], D.tup [D.int 0, D.str "1"], D.lst [D.int 0, D.int 1], D.non, D.str "0", D.tup [D.int 0, D.int 1, D.int 1], D.tup [D.tup [D.int 0, D.int 1]], D.int 0], Odd t d ∧ ∃ T, Txt d T := by
  have hw := aroundR_sr' ht
  have us : sr 68 ((u : Int) : Rat) := ⟨hu.sm.mono (by decide), by show (1 : Int).natAbs < _; decide⟩
  have s1 := hw.add r1s
  have s2 := hw.add us
  have up : (0 : Rat) < ((u : Int) : Rat) := Rat.intCast_pos.mpr hu.pos
  have w1 : ∀ (b : Bool) (S : Sto) (Q : DK) (E : EK), Q (.bl false) S → m_is_whole [.bl b] S Q E := fun b S Q E k => no_whole_bl k
  have w2 : ∀ (i : Int) (S : Sto) (Q : DK) (E : EK), Q (.bl true) S → m_is_whole [.int i] S Q E := fun i S Q E k => is_whole_int k
  have w3 : ∀ (x : Str) (S : Sto) (Q : DK) (E : EK), Q (.bl false) S → m_is_whole [.str x] S Q E := fun x S Q E k => no_whole_str k
  simp only [List.cons_append, List.nil_append, List.forall_mem_cons]
  refine ⟨⟨fun S Q E k => look_far ht s1 (by decide) (by grind) k, _, txt_tup (sh_pr s1.n s1.d (by decide))⟩, ?_, ⟨fun S Q E k => look_far ht s2 (by decide) (by grind) k, _, txt_tup (sh_pr s2.n s2.d (by decide))⟩, ?_⟩
  · rw [e2]
    exact ⟨fun S Q E k => look_low r2s r2n k, _, txt_tup (sh_pr r2s.n r2s.d (by decide))⟩
  have kk : ∀ a b : Int, (b ≤ 0 ∨ 0 < b ∧ Int.gcd a b ≠ 1) → sm 10 a → sm 10 b → Odd t (pr a b) ∧ ∃ T, Txt (pr a b) T := fun a b h ha hb => ⟨odd_pr h ha hb, _, txt_tup (sh_pr ha hb (by decide))⟩
  refine ⟨kk 0 2 (by decide) (by unfold sm; decide) (by unfold sm; decide), kk 2 2 (by decide) (by unfold sm; decide) (by unfold sm; decide), kk 1 0 (by decide) (by unfold sm; decide) (by unfold sm; decide), kk 1 (-1) (by decide) (by unfold sm; decide) (by unfold sm; decide), ?_⟩
  refine ⟨⟨odd_nofr (nofr_isi rfl), _, fun S Q k => ⟨by decide +kernel, k⟩⟩, ⟨odd_nofr (nofr_len (by simp)), _, txt_tup (sh_one hw.n (by decide))⟩, ⟨odd_nofr (nofr_two (w1 true) (w2 1) rfl), _, txt_tup (sh_k (by decide +kernel))⟩, ⟨odd_nofr (nofr_two (w2 1) (w1 true) rfl), _, txt_tup (sh_k (by decide +kernel))⟩, ⟨odd_nofr (nofr_two (w2 0) (w3 _) rfl), _, txt_tup (sh_k (by decide +kernel))⟩, ⟨odd_nofr (nofr_isi rfl), _, txt_lst (sh_k (by decide +kernel))⟩, ⟨odd_nofr (nofr_isi rfl), _, fun S Q k => k⟩, ⟨odd_nofr (nofr_isi rfl), _, fun S Q k => k⟩, ⟨odd_nofr (nofr_len (by decide)), _, txt_tup (sh_k (by decide +kernel))⟩, ⟨odd_nofr (nofr_len (by decide)), _, txt_tup (sh_k (by decide +kernel))⟩, ⟨odd_nofr (nofr_isi rfl), _, fun S Q k => ⟨by decide +kernel, k⟩⟩, List.forall_mem_nil _⟩
theorem law_pure : ∀ ns : List Int, ns.length ≤ 63 → m_law [.lst (ns.map D.int)] (fun _ => none) (fun d _ => d = .bl true) fun _ _ => False := by
  intro ns hl
  refine e_law ?_
  unfold t_law
  walk_at "bl"
  refine Go.r1' (n := 1 + min 4 ns.length) (by rw [List.length_map]; split <;> omega) (by omega) ?_
  refine forD_rng (fun j e s => ∃ o1 o2 o3 o4 o5 o6 o7 o8 o9, e = [some (.lst (ns.map D.int)), o1, o2, o3, o4, o5, o6, o7, o8, o9]) ⟨_, _, _, _, _, _, _, _, _, rfl⟩ ?_ ?_
  · rintro j e s hj ⟨o1, o2, o3, o4, o5, o6, o7, o8, o9, rfl⟩
    refine ⟨_, rfl, fun N' hnx _ hrt _ _ => ?_⟩
    show sSeq _ _ [some (.lst (ns.map D.int)), some (.int (0 + j)), o2, o3, o4, o5, o6, o7, o8, o9] _ _
    walk_at "bl"
    refine bag_spec (by omega) (by omega) fun a S1 na b1 f1 => ?_
    walk_at "bl"
    refine Go.r1' (n := 3) rfl (by decide) ?_
    refine forD_rng (fun i e s => ∃ o1 o3 o4 o5 o6 o7 o8 o9, e = [some (.lst (ns.map D.int)), o1, some (.ref a), o3, o4, o5, o6, o7, o8, o9] ∧ Bg s a) ⟨_, _, _, _, _, _, _, _, rfl, b1⟩ ?_ ?_
    · rintro i e s2 hi ⟨o1, o3, o4, o5, o6, o7, o8, o9, rfl, hb⟩
      refine ⟨_, rfl, fun N2 hnx2 _ hrt2 _ _ => ?_⟩
      show sSeq _ _ [some (.lst (ns.map D.int)), o1, some (.ref a), some (.int (0 + i)), o4, o5, o6, o7, o8, o9] _ _
      walk_at "bl"
      refine thing_spec hb (by decide) (by decide) fun t S3 ht hi b3 f3 => ?_
      walk_at "bl"
      obtain ⟨w0, w1⟩ := around_le ht
      have hw := aroundR_sr' ht
      refine l_around_spec ht ?_
      walk_at "bl"
      refine ⟨by decide, by decide, ?_⟩
      walk_at "bl"
      refine ⟨by decide, by decide, ?_⟩
      walk_at "bl"
      refine take_spec b3 (by decide) (sm_k (by decide)) fun d S4 d0 d1 b4 f4 => ?_
      obtain ⟨u, hu, eu⟩ := by_ok d0 d1
      refine Go.ixL eu ?_
      walk_at "bl"
      obtain ⟨r1, r1p, r1s, e1⟩ := hu.one
      obtain ⟨r2, r2n, r2s, e2⟩ := hu.neg
      rw [e1]
      refine lplus_mn hw r1s (by decide) ?_
      walk_at "bl"
      have eu1 : D.tup [.int u, .int 1] = fr ((u : Int) : Rat) := rfl
      rw [eu1]
      have us : sr 68 ((u : Int) : Rat) := ⟨hu.sm.mono (by decide), by show (1 : Int).natAbs < _; decide⟩
      refine lplus_mn hw us (by decide) ?_
      walk_at "bl"
      refine ⟨by simp only [List.length_cons, List.length_nil]; decide, ?_⟩
      walk_at "bl"
      refine odd_all (t := t) (fun d T S R hd hT q => odd_step hd hT q) _ S4 _ (ods_ok ht hu r1p r1s r2n r2s e2) fun S5 u5 => ?_
      walk_at "bl"
      refine (Go.ifT ?_ : Go.ifK true _ _)
      walk_at "bl"
      refine joins_spec ht fun S6 u6 => ?_
      walk_at "bl"
      exact hnx2 _ _ ⟨_, _, _, _, _, _, _, _, rfl, (b4.up u5).up u6⟩
    · rintro e s2 ⟨o1, o3, o4, o5, o6, o7, o8, o9, rfl, hb⟩
      exact hnx _ _ ⟨_, _, _, _, _, _, _, _, _, rfl⟩
  · rintro e s ⟨o1, o2, o3, o4, o5, o6, o7, o8, o9, rfl⟩
    walk_at "bl"
    rfl
end K11

end
namespace K11
open PySem PySem.Spec PyProof.Rows L2 Bl Lb
theorem facts {P : Program} {w : World} {K : PySem.W.Frag} {h : Heap} {mg : Str → Option Value} {f : Addr} (X : K.In h) (G : h.Ns mainGlobals mg) (hfa : mg ("law" : Str) = some (.ref f)) (c : He.SaysD fa fn K ∧ bx K = true) :
    ∃ fd : FuncData, (∀ (s : Shared) (v : Value), BindsTo s fd ⟨[v], []⟩ [("_law_script", v)]) ∧ ∀ base : Heap, K.In base → base.Ns mainGlobals mg → GOk P w K mg base 9 f fd ["_law_script"] (spLaw K 63) := by
  have T : Tp fa fn bx K mg := Tp.mk' X G c
  obtain ⟨fd, F⟩ := T.sy.def_ 48 (d := d_law) rfl
  have e := hfa.symm.trans (T.glo 73 (x := "law"))
  cases e
  refine ⟨fd, fun s v => FunD.bindsA (ps := ["_law_script"]) F (fun _ _ _ _ _ _ us hl => match us, hl with | [_], _ => rfl) s [v] rfl, fun base _ _ => ?_⟩
  have hok : GOk P w K mg base 9 _ fd ["_law_script"] (LSp K 1 m_law) := ok_law T F
  exact gok_law hok (mo_law (P := P) (w := w) (base := base) T) law_pure
end K11
open PySem PySem.W PyProof.Rows
set_option maxHeartbeats 0 in
theorem PySem.Challenge.cw_bendlands_k11_spokes_refused_holds : PySem.Challenge.rw_bendlands_k11_spokes_refused.Holds := by
  w_on; o_law
  refine HandSHeadRun.head_any (r := OpenLaw.row PySem.Challenge.rw_bendlands_k11_spokes_refused) (q := view (OpenLaw.row PySem.Challenge.rw_bendlands_k11_spokes_refused).prog [65]) (H := K11.hk) (ob := Bl.obX 5 K11.fa K11.fn K11.bx) (M := 6000) (loose := K11.names) (d := HandSHeadRun.topDef (OpenLaw.row PySem.Challenge.rw_bendlands_k11_spokes_refused).prog 65) (kwd := []) Bl.obX_eq
    (by kernel_rfl) (fun s => by kernel_rfl) K11.run (by kernel_rfl) (by kernel_rfl) (by kernel_rfl) (by rfl) (by first | assumption | decide +kernel) (by decide +kernel) ⟨rfl, rfl, rfl, rfl, rfl, by decide +kernel⟩ ?hw ?hc
  case hw => w_witness2
  case hc =>
    refine Bl.walk_ofG (l := PySem.Challenge.rw_bendlands_k11_spokes_refused) (n := 63) (k := 9) (x := "_law_script") rfl (by decide) (by kernel_rfl) ⟨rfl, by decide, by decide⟩ ?F
    case F =>
      intro w mg fa h Y G hmg0
      obtain ⟨K, KX, c⟩ := Y
      have hmg : mg ("law" : PySem.Str) = some (.ref fa) := by
        have e : (HandSHeadRun.topDef (OpenLaw.row PySem.Challenge.rw_bendlands_k11_spokes_refused).prog 65).name = ("law" : PySem.Str) := by kernel_rfl
        rw [← e]
        exact hmg0
      obtain ⟨fd, hb, hF⟩ := K11.facts (P := (PySem.Challenge.rw_bendlands_k11_spokes_refused).prog) (w := w) KX G hmg c
      exact ⟨K, fd, KX, hb, hF⟩
