import PyProof.Rows.All
import HandS.ForMost
import HandS.ForExc
import HandS.Walk
import HandS.Wide
import HandS.IsInst
import HandS.Defaults
import HandS.Rev
import HandS.Zip
import HandS.TupAny
import HandS.Style
import HandS.Flow
import HandS.Deep
import HandS.TryOnly
import HandS.WordsExc
import HandS.MakeKwOnly
import HandS.WideBits
import HandS.HeadHook2
import HandS.HeadEnd
import HandS.Head0
import HandS.Head1
import HandS.Head2
import HandS.ExcIs
import PyProof.CollectIter
import PyProof.WalksMore
import HandS.RevTup
import KE.KUnpack
import KE.GoesEnum
import KE.GoesMore
import HandS.Dict
import PySem.Challenge.RW_bendlands_k18_distances_kept
import HandS.SetFor
import HandS.Zip0
import KE.GoesZip
import KE.GoesEnumKw
set_option Elab.async false
set_option linter.all false
set_option maxRecDepth 100000
set_option maxHeartbeats 4000000
/-! Data without addresses: tuples by their items, lists that are grown by their address; each construct of the text as a transformer over them. -/
namespace Bl
open PySem PySem.Spec PyProof.Rows L2

inductive D where
  | non | bl (b : Bool) | int (i : Int) | str (x : Str)
  | tup (ds : List D) | lst (ds : List D)
  | ref (a : Addr) | obj (a : Addr)

abbrev Sto := Addr → Option (List D)
def sup (S : Sto) (a : Addr) (ds : List D) : Sto := fun b => if b = a then some ds else S b
def sdel (S : Sto) (a : Addr) : Sto := fun b => if b = a then none else S b
theorem sup_same {S : Sto} {a : Addr} {ds : List D} : sup S a ds a = some ds := if_pos rfl
theorem sup_ne {S : Sto} {a b : Addr} {ds : List D} (h : b ≠ a) : sup S a ds b = S b := if_neg h
theorem sdel_same {S : Sto} {a : Addr} : sdel S a a = none := if_pos rfl
theorem sdel_ne {S : Sto} {a b : Addr} (h : b ≠ a) : sdel S a b = S b := if_neg h

/-- the written part, and the lists that are being made out of sight -/
structure Kz where
  K : PySem.W.Frag
  Z : Addr → Prop
/-- a list of the written part -/
def KL (K : PySem.W.Frag) (a : Addr) (xs : List V) : Prop :=
  ∃ (o : Obj) (its : Array Value) (n : Nat), K.lookup a = some o ∧ o.cls = .type "list" ∧ o.dict = none ∧ o.data = .seq its n ∧ its.size ≤ sizeLine ∧ Vals xs its.toList

mutual
inductive Rp (K : Kz) (S : Sto) (H : Hp) : D → V → Prop
  | non : Rp K S H .non .non
  | bl (b : Bool) : Rp K S H (.bl b) (.bl b)
  | int (i : Int) : Rp K S H (.int i) (.int i)
  | str (x : Str) : Rp K S H (.str x) (.str x)
  | tup {a : Addr} {vs : List V} {ds : List D} : SqT K.K H a vs → RpL K S H ds vs → Rp K S H (.tup ds) (.ref a)
  | lst {a : Addr} {vs : List V} {ds : List D} : Rd H a (.lst vs) → S a = none → ¬ K.Z a → RpL K S H ds vs → Rp K S H (.lst ds) (.ref a)
  | lstK {a : Addr} {vs : List V} {ds : List D} : KL K.K a vs → RpL K S H ds vs → Rp K S H (.lst ds) (.ref a)
  | ref (a : Addr) : Rp K S H (.ref a) (.ref a)
  | obj (a : Addr) : Rp K S H (.obj a) (.ref a)
inductive RpL (K : Kz) (S : Sto) (H : Hp) : List D → List V → Prop
  | nil : RpL K S H [] []
  | cons {d : D} {v : V} {ds : List D} {vs : List V} : Rp K S H d v → RpL K S H ds vs → RpL K S H (d :: ds) (v :: vs)
end

/-- the lists that are grown stand in the heap -/
structure RS (K : Kz) (S : Sto) (H : Hp) : Prop where
  at_ : ∀ a ds, S a = some ds → ∃ vs, H a = some (.lst vs) ∧ RpL K S H ds vs
  hid : ∀ b, K.Z b → S b = none ∧ ∃ vs, H b = some (.lst vs)
/-- what else stands, stands on -/
def Step (S : Sto) (H : Hp) (S' : Sto) (H' : Hp) : Prop := ∀ b o, H b = some o → S b = none → S' b = none ∧ H' b = some o
theorem Step.refl (S : Sto) (H : Hp) : Step S H S H := fun _ _ h n => ⟨n, h⟩
theorem Step.trans {S S1 S2 : Sto} {H H1 H2 : Hp} (a : Step S H S1 H1) (b : Step S1 H1 S2 H2) : Step S H S2 H2 := fun c o h n => by
  obtain ⟨n1, h1⟩ := a c o h n
  exact b c o h1 n1

theorem RS.off {K : Kz} {S : Sto} {H : Hp} {a : Addr} {o : HO} (rs : RS K S H) (h : H a = some o) (hn : ∀ vs, o ≠ .lst vs) : S a = none := by
  cases e : S a with
  | none => rfl
  | some ds =>
    obtain ⟨vs, q, _⟩ := rs.at_ a ds e
    rw [h] at q
    exact absurd (Option.some.inj q) (hn vs)
theorem RS.free {K : Kz} {S : Sto} {H : Hp} {a : Addr} (rs : RS K S H) (h : H a = none) : S a = none := by
  cases e : S a with
  | none => rfl
  | some ds =>
    obtain ⟨vs, q, _⟩ := rs.at_ a ds e
    rw [h] at q
    cases q
theorem Step.rdT {K : Kz} {S S' : Sto} {H H' : Hp} {a : Addr} {xs : List V} (st : Step S H S' H') (rs : RS K S H) (h : Rd H a (.tup xs)) : Rd H' a (.tup xs) := by
  rcases h with h | ⟨o, h⟩
  · exact .inl (st a _ h (rs.off h fun vs z => by cases z)).2
  · exact .inr ⟨o, (st a _ h (rs.off h fun vs z => by cases z)).2⟩
theorem Step.sqT {K : Kz} {S S' : Sto} {H H' : Hp} {a : Addr} {xs : List V} (st : Step S H S' H') (rs : RS K S H) (h : SqT K.K H a xs) : SqT K.K H' a xs := by
  rcases h with h | h
  · exact .inl (st.rdT rs h)
  · exact .inr h
theorem Step.rdL {S S' : Sto} {H H' : Hp} {a : Addr} {xs : List V} (st : Step S H S' H') (h : Rd H a (.lst xs)) (n : S a = none) : Rd H' a (.lst xs) ∧ S' a = none := by
  rcases h with h | ⟨o, h⟩
  · obtain ⟨n1, h1⟩ := st a _ h n
    exact ⟨.inl h1, n1⟩
  · obtain ⟨n1, h1⟩ := st a _ h n
    exact ⟨.inr ⟨o, h1⟩, n1⟩
section
variable {K : Kz} {S S' : Sto} {H H' : Hp}
mutual
theorem Rp.step (st : Step S H S' H') (rs : RS K S H) : ∀ (d : D) (v : V), Rp K S H d v → Rp K S' H' d v
  | .non, _, h => by cases h; exact .non
  | .bl b, _, h => by cases h; exact .bl b
  | .int i, _, h => by cases h; exact .int i
  | .str x, _, h => by cases h; exact .str x
  | .tup ds, _, h => by
    cases h with
    | tup hs ha => exact .tup (st.sqT rs hs) (RpL.step st rs ds _ ha)
  | .lst ds, _, h => by
    cases h with
    | lst hs hn hz ha => exact .lst (st.rdL hs hn).1 (st.rdL hs hn).2 hz (RpL.step st rs ds _ ha)
    | lstK hs ha => exact .lstK hs (RpL.step st rs ds _ ha)
  | .ref a, _, h => by cases h; exact .ref a
  | .obj a, _, h => by cases h; exact .obj a
theorem RpL.step (st : Step S H S' H') (rs : RS K S H) : ∀ (ds : List D) (vs : List V), RpL K S H ds vs → RpL K S' H' ds vs
  | [], _, h => by cases h; exact .nil
  | d :: ds, _, h => by
    cases h with
    | cons h1 h2 => exact .cons (Rp.step st rs d _ h1) (RpL.step st rs ds _ h2)
end
theorem RpL.length : ∀ {ds : List D} {vs : List V}, RpL K S H ds vs → ds.length = vs.length
  | [], _, h => by cases h; rfl
  | _ :: _, _, h => by
    cases h with
    | cons _ h2 => exact congrArg Nat.succ (RpL.length h2)
theorem RpL.get : ∀ {ds : List D} {vs : List V} {i : Nat} {d : D}, RpL K S H ds vs → ds[i]? = some d → ∃ v, vs[i]? = some v ∧ Rp K S H d v
  | [], _, i, d, _, e => by simp at e
  | d0 :: ds, _, i, d, h, e => by
    cases h with
    | cons h1 h2 =>
      cases i with
      | zero => simp at e; subst e; exact ⟨_, rfl, h1⟩
      | succ i =>
        obtain ⟨v, e1, e2⟩ := RpL.get (i := i) (d := d) h2 (by simpa using e)
        exact ⟨v, by simpa using e1, e2⟩
theorem RpL.get' : ∀ {ds : List D} {vs : List V} {i : Nat} {v : V}, RpL K S H ds vs → vs[i]? = some v → ∃ d, ds[i]? = some d ∧ Rp K S H d v
  | [], _, i, d, h, e => by cases h; simp at e
  | d0 :: ds, _, i, v, h, e => by
    cases h with
    | cons h1 h2 =>
      cases i with
      | zero => simp at e; subst e; exact ⟨_, rfl, h1⟩
      | succ i =>
        obtain ⟨d, e1, e2⟩ := RpL.get' (i := i) (v := v) h2 (by simpa using e)
        exact ⟨d, by simpa using e1, e2⟩
theorem RpL.append : ∀ {ds es : List D} {vs ws : List V}, RpL K S H ds vs → RpL K S H es ws → RpL K S H (ds ++ es) (vs ++ ws)
  | [], _, _, _, h, h2 => by cases h; exact h2
  | _ :: _, _, _, _, h, h2 => by
    cases h with
    | cons p q => exact .cons p (RpL.append q h2)
theorem RpL.take : ∀ {ds : List D} {vs : List V} (n : Nat), RpL K S H ds vs → RpL K S H (ds.take n) (vs.take n)
  | _, _, 0, _ => by simp; exact .nil
  | [], _, n + 1, h => by cases h; exact .nil
  | d :: ds, _, n + 1, h => by
    cases h with
    | cons p q => exact .cons p (RpL.take n q)
theorem RpL.drop : ∀ {ds : List D} {vs : List V} (n : Nat), RpL K S H ds vs → RpL K S H (ds.drop n) (vs.drop n)
  | _, _, 0, h => h
  | [], _, n + 1, h => by cases h; exact .nil
  | d :: ds, _, n + 1, h => by
    cases h with
    | cons p q => exact RpL.drop n q
theorem RpL.set : ∀ {ds : List D} {vs : List V} {d : D} {v : V} (i : Nat), RpL K S H ds vs → Rp K S H d v → RpL K S H (ds.set i d) (vs.set i v)
  | [], _, d, v, i, h, h1 => by cases h; exact .nil
  | _ :: _, _, d, v, i, h, h1 => by
    cases h with
    | cons p q =>
      cases i with
      | zero => exact .cons h1 q
      | succ i => exact .cons p (RpL.set i q h1)
theorem RpL.ints {ns : List Int} : RpL K S H (ns.map D.int) (ns.map V.int) := by
  induction ns with
  | nil => exact .nil
  | cons n r ih => exact .cons (.int n) ih
end

/-! ### the slots -/
abbrev Ev := List (Option D)
structure RE (K : Kz) (S : Sto) (H : Hp) (env : Ev) (σ : L2.St) : Prop where
  len : env.length = σ.length
  at_ : ∀ (i : Nat) (d : D), env[i]? = some (some d) → ∃ v, σ[i]? = some (some v) ∧ Rp K S H d v
section
variable {K : Kz} {S S' : Sto} {H H' : Hp} {env : Ev} {σ : L2.St}
theorem RE.step (st : Step S H S' H') (rs : RS K S H) (re : RE K S H env σ) : RE K S' H' env σ :=
  ⟨re.len, fun i d e => by
    obtain ⟨v, e1, r⟩ := re.at_ i d e
    exact ⟨v, e1, Rp.step st rs d v r⟩⟩
theorem RE.set (re : RE K S H env σ) {d : D} {v : V} (r : Rp K S H d v) (i : Nat) : RE K S H (env.set i (some d)) (σ.set i (some v)) := by
  refine ⟨by rw [List.length_set, List.length_set]; exact re.len, fun j e h => ?_⟩
  by_cases hj : i = j
  · subst hj
    by_cases hl : i < env.length
    · rw [List.getElem?_set_self hl] at h
      cases h
      exact ⟨v, List.getElem?_set_self (by rw [← re.len]; exact hl), r⟩
    · rw [List.getElem?_eq_none (by rw [List.length_set]; omega)] at h
      cases h
  · rw [List.getElem?_set_ne hj] at h
    rw [List.getElem?_set_ne hj]
    exact re.at_ j e h
theorem RE.unset (re : RE K S H env σ) (i : Nat) : RE K S H (env.set i none) (σ.set i none) := by
  refine ⟨by rw [List.length_set, List.length_set]; exact re.len, fun j e h => ?_⟩
  by_cases hj : i = j
  · subst hj
    by_cases hl : i < env.length
    · rw [List.getElem?_set_self hl] at h
      cases h
    · rw [List.getElem?_eq_none (by rw [List.length_set]; omega)] at h
      cases h
  · rw [List.getElem?_set_ne hj] at h
    rw [List.getElem?_set_ne hj]
    exact re.at_ j e h
theorem RE.start {ds : List D} {vs : List V} (r : RpL K S H ds vs) (n : Nat) : RE K S H (ds.map some ++ List.replicate n none) (vs.map some ++ List.replicate n none) := by
  refine ⟨by simp [r.length], fun i d h => ?_⟩
  by_cases hi : i < ds.length
  · rw [List.getElem?_append_left (by simpa using hi), List.getElem?_map] at h
    cases e : ds[i]? with
    | none => rw [e] at h; cases h
    | some x =>
      rw [e] at h
      cases h
      obtain ⟨v, e1, r1⟩ := r.get e
      have hv : i < vs.length := by rw [← r.length]; exact hi
      exact ⟨v, by rw [List.getElem?_append_left (by simpa using hv), List.getElem?_map, e1]; rfl, r1⟩
  · rw [List.getElem?_append_right (by simpa using hi), List.getElem?_replicate] at h
    split at h <;> cases h
end

/-! ### an exception -/
structure Xc where
  nm : Str
  fs : List (Str × D)
def RX (K : Kz) (S : Sto) (H : Hp) (x : Xc) (c : Value) (dx : Option Addr) : Prop :=
  (∃ C, PySem.W.nsIn K.K mainGlobals x.nm = some (some (.ref C)) ∧ c = .ref C) ∧ match dx with
    | none => x.fs = []
    | some a => x.fs ≠ [] ∧ ∃ fv : List (Str × V), H a = some (.xd fv) ∧ fv.map (·.1) = x.fs.map (·.1) ∧ RpL K S H (x.fs.map (·.2)) (fv.map (·.2))

/-! ### transformers -/
abbrev DK := D → Sto → Prop
abbrev EK := Xc → Sto → Prop
abbrev TX (α : Type) := Ev → Sto → (α → Sto → Prop) → EK → Prop
abbrev TEd := TX D
abbrev TTd := TX Bool
abbrev TAd := TX (List D)
structure Nd where
  nx : Ev → Sto → Prop
  rt : DK
  bk : Ev → Sto → Prop
  ct : Ev → Sto → Prop
  ex : Xc → Ev → Sto → Prop
abbrev TSd := Ev → Sto → Nd → Prop
abbrev TFd := List D → Sto → DK → EK → Prop
def MoE {α : Type} (t : TX α) : Prop := ∀ env S (Q Q' : α → Sto → Prop) (E E' : EK), (∀ d S, Q d S → Q' d S) → (∀ x S, E x S → E' x S) → t env S Q E → t env S Q' E'
structure NdLe (A B : Nd) : Prop where
  nx : ∀ e S, A.nx e S → B.nx e S
  rt : ∀ d S, A.rt d S → B.rt d S
  bk : ∀ e S, A.bk e S → B.bk e S
  ct : ∀ e S, A.ct e S → B.ct e S
  ex : ∀ x e S, A.ex x e S → B.ex x e S
def MoS (t : TSd) : Prop := ∀ env S (A B : Nd), NdLe A B → t env S A → t env S B
def MoF (f : TFd) : Prop := ∀ ds S (Q Q' : DK) (E E' : EK), (∀ d S, Q d S → Q' d S) → (∀ x S, E x S → E' x S) → f ds S Q E → f ds S Q' E'

structure Aft (K : Kz) (S : Sto) (H : Hp) (S' : Sto) (H' : Hp) : Prop where
  st : Step S H S' H'
  rs : RS K S' H'
theorem Aft.trans {K : Kz} {S S1 S2 : Sto} {H H1 H2 : Hp} (a : Aft K S H S1 H1) (b : Aft K S1 H1 S2 H2) : Aft K S H S2 H2 := ⟨a.st.trans b.st, b.rs⟩
theorem Aft.refl {K : Kz} {S : Sto} {H : Hp} (rs : RS K S H) : Aft K S H S H := ⟨Step.refl S H, rs⟩

/-- what is wanted of an exception -/
def PX (K : Kz) (S : Sto) (H : Hp) (σ : L2.St) (W : WX) : EK := fun x S' => ∀ c dx H', Aft K S H S' H' → RX K S' H' x c dx → W c dx σ H'
def LE (K : PySem.W.Frag) (W : WX) (t : TEd) : TE := fun σ H Q => ∃ Z env S, RE ⟨K, Z⟩ S H env σ ∧ RS ⟨K, Z⟩ S H ∧ t env S (fun d S' => ∀ v H', Aft ⟨K, Z⟩ S H S' H' → Rp ⟨K, Z⟩ S' H' d v → Q v H') (PX ⟨K, Z⟩ S H σ W)
def LT (K : PySem.W.Frag) (W : WX) (t : TTd) : TT := fun σ H Q => ∃ Z env S, RE ⟨K, Z⟩ S H env σ ∧ RS ⟨K, Z⟩ S H ∧ t env S (fun b S' => ∀ H', Aft ⟨K, Z⟩ S H S' H' → Q b H') (PX ⟨K, Z⟩ S H σ W)
def LA (K : PySem.W.Frag) (W : WX) (t : TAd) : TA := fun σ H Q => ∃ Z env S, RE ⟨K, Z⟩ S H env σ ∧ RS ⟨K, Z⟩ S H ∧ t env S (fun ds S' => ∀ vs H', Aft ⟨K, Z⟩ S H S' H' → RpL ⟨K, Z⟩ S' H' ds vs → Q vs H') (PX ⟨K, Z⟩ S H σ W)
def LN (K : Kz) (S : Sto) (H : Hp) (W : WX) (N : Ends) : Nd where
  nx := fun e S' => ∀ σ' H', Aft K S H S' H' → RE K S' H' e σ' → N.nx σ' H'
  rt := fun d S' => ∀ v H', Aft K S H S' H' → Rp K S' H' d v → N.rt v H'
  bk := fun e S' => ∀ σ' H', Aft K S H S' H' → RE K S' H' e σ' → N.bk σ' H'
  ct := fun e S' => ∀ σ' H', Aft K S H S' H' → RE K S' H' e σ' → N.ct σ' H'
  ex := fun x e S' => ∀ c dx σ' H', Aft K S H S' H' → RE K S' H' e σ' → RX K S' H' x c dx → W c dx σ' H'
def LS (K : PySem.W.Frag) (W : WX) (t : TSd) : TS := fun N σ H => ∃ Z env S, RE ⟨K, Z⟩ S H env σ ∧ RS ⟨K, Z⟩ S H ∧ t env S (LN ⟨K, Z⟩ S H W N)

structure JE (X : Cx) (W : WX) (e : Expr) (t : TEd) : Prop where
  pe : PE X e (LE X.K W t)
  mo : MoE t
structure JT (X : Cx) (W : WX) (e : Expr) (t : TTd) : Prop where
  pt : PT X e (LT X.K W t)
  mo : MoE t
structure JW (X : Cx) (W : WX) (e : Expr) (t : TTd) : Prop where
  pw : PW X e (LT X.K W t)
  mo : MoE t
structure JA (X : Cx) (W : WX) (es : List Expr) (t : TAd) : Prop where
  pa : PA X es (LA X.K W t)
  mo : MoE t
structure JS (X : Cx) (W : WX) (st : Stmt) (t : TSd) : Prop where
  ps : PS X st (LS X.K W t)
  mo : MoS t
structure JB (X : Cx) (W : WX) (st : List Stmt) (t : TSd) : Prop where
  ps : PSs X st (LS X.K W t)
  mo : MoS t

theorem PE.imp {X : Cx} {e : Expr} {t u : TE} (h : PE X e t) (k : ∀ σ H Q, u σ H Q → t σ H Q) : PE X e u := ⟨fun pins s σ H Q I q => h.run pins s σ H Q I (k σ H Q q)⟩
theorem PT.imp {X : Cx} {e : Expr} {t u : TT} (h : PT X e t) (k : ∀ σ H Q, u σ H Q → t σ H Q) : PT X e u := ⟨fun pins s σ H Q I q => h.run pins s σ H Q I (k σ H Q q)⟩
theorem PW.imp {X : Cx} {e : Expr} {t u : TT} (h : PW X e t) (k : ∀ σ H Q, u σ H Q → t σ H Q) : PW X e u := ⟨fun wh pins s σ H Q I q => h.run wh pins s σ H Q I (k σ H Q q)⟩
theorem PA.imp {X : Cx} {es : List Expr} {t u : TA} (h : PA X es t) (k : ∀ σ H Q, u σ H Q → t σ H Q) : PA X es u := ⟨fun p pins s σ H Q I q => h.run p pins s σ H Q I (k σ H Q q)⟩
theorem PS.imp {X : Cx} {st : Stmt} {t u : TS} (h : PS X st t) (k : ∀ N σ H, u N σ H → t N σ H) : PS X st u := ⟨fun pins s σ H N I q => h.run pins s σ H N I (k N σ H q)⟩
theorem PSs.imp {X : Cx} {st : List Stmt} {t u : TS} (h : PSs X st t) (k : ∀ N σ H, u N σ H → t N σ H) : PSs X st u := ⟨fun pins s σ H N I q => h.run pins s σ H N I (k N σ H q)⟩

/-! ### the lifted forms, from a state -/
section
variable {K : Kz} {W : WX} {S : Sto} {H : Hp} {env : Ev} {σ : L2.St}
theorem LE.of {t : TEd} (mo : MoE t) (re : RE K S H env σ) (rs : RS K S H) {C : DK} {E : EK} {R : VK} (h : t env S C E)
    (hc : ∀ d S1 v H1, C d S1 → Aft K S H S1 H1 → Rp K S1 H1 d v → R v H1) (he : ∀ x S1 c dx H1, E x S1 → Aft K S H S1 H1 → RX K S1 H1 x c dx → W c dx σ H1) : LE K.K W t σ H R :=
  ⟨K.Z, env, S, re, rs, mo _ _ _ _ _ _ (fun d S1 q v H1 a r => hc d S1 v H1 q a r) (fun x S1 q c dx H1 a r => he x S1 c dx H1 q a r) h⟩
theorem LT.of {t : TTd} (mo : MoE t) (re : RE K S H env σ) (rs : RS K S H) {C : Bool → Sto → Prop} {E : EK} {R : Bool → Hp → Prop} (h : t env S C E)
    (hc : ∀ d S1 H1, C d S1 → Aft K S H S1 H1 → R d H1) (he : ∀ x S1 c dx H1, E x S1 → Aft K S H S1 H1 → RX K S1 H1 x c dx → W c dx σ H1) : LT K.K W t σ H R :=
  ⟨K.Z, env, S, re, rs, mo _ _ _ _ _ _ (fun d S1 q H1 a => hc d S1 H1 q a) (fun x S1 q c dx H1 a r => he x S1 c dx H1 q a r) h⟩
theorem LA.of {t : TAd} (mo : MoE t) (re : RE K S H env σ) (rs : RS K S H) {C : List D → Sto → Prop} {E : EK} {R : List V → Hp → Prop} (h : t env S C E)
    (hc : ∀ d S1 v H1, C d S1 → Aft K S H S1 H1 → RpL K S1 H1 d v → R v H1) (he : ∀ x S1 c dx H1, E x S1 → Aft K S H S1 H1 → RX K S1 H1 x c dx → W c dx σ H1) : LA K.K W t σ H R :=
  ⟨K.Z, env, S, re, rs, mo _ _ _ _ _ _ (fun d S1 q v H1 a r => hc d S1 v H1 q a r) (fun x S1 q c dx H1 a r => he x S1 c dx H1 q a r) h⟩
theorem LS.of {t : TSd} (mo : MoS t) (re : RE K S H env σ) (rs : RS K S H) {N : Nd} {M : Ends} (h : t env S N) (hl : NdLe N (LN K S H W M)) : LS K.K W t M σ H :=
  ⟨K.Z, env, S, re, rs, mo _ _ _ _ hl h⟩
/-- exceptions behind a step -/
theorem PX.after {S1 : Sto} {H1 : Hp} (a : Aft K S H S1 H1) {x : Xc} {S2 : Sto} (h : PX K S H σ W x S2) : ∀ c dx H2, Aft K S1 H1 S2 H2 → RX K S2 H2 x c dx → W c dx σ H2 :=
  fun c dx H2 b r => h c dx H2 (a.trans b) r
theorem LN.after {S1 : Sto} {H1 : Hp} (a : Aft K S H S1 H1) (N : Ends) : NdLe (LN K S H W N) (LN K S1 H1 W N) :=
  ⟨fun e S2 h σ' H' b r => h σ' H' (a.trans b) r, fun d S2 h v H' b r => h v H' (a.trans b) r, fun e S2 h σ' H' b r => h σ' H' (a.trans b) r,
   fun e S2 h σ' H' b r => h σ' H' (a.trans b) r, fun x e S2 h c dx σ' H' b r q => h c dx σ' H' (a.trans b) r q⟩
end

/-! ### a list that is made out of sight -/
abbrev Kz.more (K : Kz) (p : Addr) : Kz := ⟨K.K, fun b => K.Z b ∨ b = p⟩
section
variable {K : Kz} {S : Sto} {H : Hp} {p : Addr}
mutual
theorem Rp.hide {xs : List V} (hp : H p = none) : ∀ (d : D) (v : V), Rp K S H d v → Rp (K.more p) S (upd H p (.lst xs)) d v
  | .non, _, h => by cases h; exact .non
  | .bl b, _, h => by cases h; exact .bl b
  | .int i, _, h => by cases h; exact .int i
  | .str x, _, h => by cases h; exact .str x
  | .tup ds, _, h => by
    cases h with
    | tup hs ha =>
      refine .tup ?_ (RpL.hide hp ds _ ha)
      rcases hs with (h | ⟨o, h⟩) | h
      · exact .inl (.inl (by rw [upd_ne (ne_of_none h hp)]; exact h))
      · exact .inl (.inr ⟨o, by rw [upd_ne (ne_of_none h hp)]; exact h⟩)
      · exact .inr h
  | .lst ds, _, h => by
    cases h with
    | lst hs hn hz ha =>
      rename_i a vs
      have ne : a ≠ p := by
        rcases hs with h | ⟨o, h⟩
        · exact ne_of_none h hp
        · exact ne_of_none h hp
      refine .lst ?_ hn (fun z => z.elim hz ne) (RpL.hide hp ds _ ha)
      rcases hs with h | ⟨o, h⟩
      · exact .inl (by rw [upd_ne ne]; exact h)
      · exact .inr ⟨o, by rw [upd_ne ne]; exact h⟩
    | lstK hs ha => exact .lstK hs (RpL.hide hp ds _ ha)
  | .ref a, _, h => by cases h; exact .ref a
  | .obj a, _, h => by cases h; exact .obj a
theorem RpL.hide {xs : List V} (hp : H p = none) : ∀ (ds : List D) (vs : List V), RpL K S H ds vs → RpL (K.more p) S (upd H p (.lst xs)) ds vs
  | [], _, h => by cases h; exact .nil
  | d :: ds, _, h => by
    cases h with
    | cons h1 h2 => exact .cons (Rp.hide hp d _ h1) (RpL.hide hp ds _ h2)
end
mutual
/-- the hidden list is written -/
theorem Rp.grow {xs ys : List V} (hp : H p = some (.lst ys)) : ∀ (d : D) (v : V), Rp (K.more p) S H d v → Rp (K.more p) S (upd H p (.lst xs)) d v
  | .non, _, h => by cases h; exact .non
  | .bl b, _, h => by cases h; exact .bl b
  | .int i, _, h => by cases h; exact .int i
  | .str x, _, h => by cases h; exact .str x
  | .tup ds, _, h => by
    cases h with
    | tup hs ha =>
      rename_i a vs
      refine .tup ?_ (RpL.grow hp ds _ ha)
      rcases hs with (h | ⟨o, h⟩) | h
      · exact .inl (.inl (by rw [upd_ne (ne_of h hp (by intro z; cases z))]; exact h))
      · exact .inl (.inr ⟨o, by rw [upd_ne (ne_of h hp (by intro z; cases z))]; exact h⟩)
      · exact .inr h
  | .lst ds, _, h => by
    cases h with
    | lst hs hn hz ha =>
      rename_i a vs
      have ne : a ≠ p := fun z => hz (.inr z)
      refine .lst ?_ hn hz (RpL.grow hp ds _ ha)
      rcases hs with h | ⟨o, h⟩
      · exact .inl (by rw [upd_ne ne]; exact h)
      · exact .inr ⟨o, by rw [upd_ne ne]; exact h⟩
    | lstK hs ha => exact .lstK hs (RpL.grow hp ds _ ha)
  | .ref a, _, h => by cases h; exact .ref a
  | .obj a, _, h => by cases h; exact .obj a
theorem RpL.grow {xs ys : List V} (hp : H p = some (.lst ys)) : ∀ (ds : List D) (vs : List V), RpL (K.more p) S H ds vs → RpL (K.more p) S (upd H p (.lst xs)) ds vs
  | [], _, h => by cases h; exact .nil
  | d :: ds, _, h => by
    cases h with
    | cons h1 h2 => exact .cons (Rp.grow hp d _ h1) (RpL.grow hp ds _ h2)
end
mutual
theorem Rp.show_ : ∀ (d : D) (v : V), Rp (K.more p) S H d v → Rp K S H d v
  | .non, _, h => by cases h; exact .non
  | .bl b, _, h => by cases h; exact .bl b
  | .int i, _, h => by cases h; exact .int i
  | .str x, _, h => by cases h; exact .str x
  | .tup ds, _, h => by
    cases h with
    | tup hs ha => exact .tup hs (RpL.show_ ds _ ha)
  | .lst ds, _, h => by
    cases h with
    | lst hs hn hz ha => exact .lst hs hn (fun z => hz (.inl z)) (RpL.show_ ds _ ha)
    | lstK hs ha => exact .lstK hs (RpL.show_ ds _ ha)
  | .ref a, _, h => by cases h; exact .ref a
  | .obj a, _, h => by cases h; exact .obj a
theorem RpL.show_ : ∀ (ds : List D) (vs : List V), RpL (K.more p) S H ds vs → RpL K S H ds vs
  | [], _, h => by cases h; exact .nil
  | d :: ds, _, h => by
    cases h with
    | cons h1 h2 => exact .cons (Rp.show_ d _ h1) (RpL.show_ ds _ h2)
end
mutual
/-- the list is told -/
theorem Rp.unhide {es : List D} : ∀ (d : D) (v : V), Rp (K.more p) S H d v → Rp K (sup S p es) H d v
  | .non, _, h => by cases h; exact .non
  | .bl b, _, h => by cases h; exact .bl b
  | .int i, _, h => by cases h; exact .int i
  | .str x, _, h => by cases h; exact .str x
  | .tup ds, _, h => by
    cases h with
    | tup hs ha => exact .tup hs (RpL.unhide ds _ ha)
  | .lst ds, _, h => by
    cases h with
    | lst hs hn hz ha => exact .lst hs (by rw [sup_ne fun z => hz (.inr z)]; exact hn) (fun z => hz (.inl z)) (RpL.unhide ds _ ha)
    | lstK hs ha => exact .lstK hs (RpL.unhide ds _ ha)
  | .ref a, _, h => by cases h; exact .ref a
  | .obj a, _, h => by cases h; exact .obj a
theorem RpL.unhide {es : List D} : ∀ (ds : List D) (vs : List V), RpL (K.more p) S H ds vs → RpL K (sup S p es) H ds vs
  | [], _, h => by cases h; exact .nil
  | d :: ds, _, h => by
    cases h with
    | cons h1 h2 => exact .cons (Rp.unhide d _ h1) (RpL.unhide ds _ h2)
end
theorem RS.hide {xs : List V} (rs : RS K S H) (hp : H p = none) : RS (K.more p) S (upd H p (.lst xs)) := by
  refine ⟨fun a ds e => ?_, fun b hb => ?_⟩
  · obtain ⟨vs, q, r⟩ := rs.at_ a ds e
    exact ⟨vs, by rw [upd_ne (ne_of_none q hp)]; exact q, RpL.hide hp _ _ r⟩
  · rcases hb with hb | rfl
    · obtain ⟨n, vs, q⟩ := rs.hid b hb
      exact ⟨n, vs, by rw [upd_ne (ne_of_none q hp)]; exact q⟩
    · exact ⟨rs.free hp, xs, upd_same⟩
theorem RS.grow {xs ys : List V} (rs : RS (K.more p) S H) (hp : H p = some (.lst ys)) : RS (K.more p) S (upd H p (.lst xs)) := by
  have np : S p = none := (rs.hid p (.inr rfl)).1
  refine ⟨fun a ds e => ?_, fun b hb => ?_⟩
  · obtain ⟨vs, q, r⟩ := rs.at_ a ds e
    have ne : a ≠ p := fun z => by rw [z, np] at e; cases e
    exact ⟨vs, by rw [upd_ne ne]; exact q, RpL.grow hp _ _ r⟩
  · obtain ⟨n, vs, q⟩ := rs.hid b hb
    by_cases hbp : b = p
    · subst hbp
      exact ⟨n, xs, upd_same⟩
    · exact ⟨n, vs, by rw [upd_ne hbp]; exact q⟩
theorem RS.show_ (rs : RS (K.more p) S H) : RS K S H := by
  refine ⟨fun a ds e => ?_, fun b hb => rs.hid b (.inl hb)⟩
  obtain ⟨vs, q, r⟩ := rs.at_ a ds e
  exact ⟨vs, q, RpL.show_ _ _ r⟩
theorem Rp.made {ds : List D} {vs : List V} (rs : RS (K.more p) S H) (hp : H p = some (.lst vs)) (hz : ¬ K.Z p) (r : RpL (K.more p) S H ds vs) : Rp K S H (.lst ds) (.ref p) :=
  .lst (.inl hp) (rs.hid p (.inr rfl)).1 hz (RpL.show_ _ _ r)
end
end Bl

namespace Bl
open PySem PySem.Spec PyProof.Rows L2

/-! ### where one stands -/
/-- a block's view: the slots that it sees, its locals, its cells; the module's and built-in names -/
structure Vw where
  vl : List Nat
  lo : List Nat
  ce : List Nat
  gs : List Str
/-- the names of a block by slot -/
structure Sc (N : List Str) (sc : Scope) (vw : Vw) : Prop where
  vis : ∀ i ∈ vw.vl, ∀ x, N[i]? = some x → Vis sc x ∧ (x == ("__debug__" : Str)) = false ∧ (x == ("__classdict__" : Str)) = false
  loc : ∀ i ∈ vw.lo, ∀ x, N[i]? = some x → sc.names.lookup x = some .local
  cel : ∀ i ∈ vw.ce, ∀ x, N[i]? = some x → sc.names.lookup x = some .cell
  gl : ∀ x ∈ vw.gs, sc.names.lookup x = some .globalImplicit ∧ x ≠ "__name__" ∧ (x == ("__debug__" : Str)) = false
def isLoc : Option NameKind → Bool
  | some .local => true
  | _ => false
def isCel : Option NameKind → Bool
  | some .cell => true
  | _ => false
def isVis : Option NameKind → Bool
  | some .local => true
  | some .cell => true
  | some .free => true
  | _ => false
def isGlo : Option NameKind → Bool
  | some .globalImplicit => true
  | _ => false
def scC (N : List Str) (sc : Scope) (vw : Vw) : Bool :=
  (vw.vl.all fun i => match N[i]? with
    | none => true
    | some x => isVis (sc.names.lookup x) && !(x == ("__debug__" : Str)) && !(x == ("__classdict__" : Str))) &&
  ((vw.lo.all fun i => match N[i]? with
    | none => true
    | some x => isLoc (sc.names.lookup x)) && (vw.ce.all fun i => match N[i]? with
    | none => true
    | some x => isCel (sc.names.lookup x))) &&
  (vw.gs.all fun x => isGlo (sc.names.lookup x) && decide (x ≠ "__name__") && !(x == ("__debug__" : Str)))
theorem scOf {N : List Str} {sc : Scope} {vw : Vw} (h : scC N sc vw = true) : Sc N sc vw := by
  unfold scC at h
  rw [Bool.and_eq_true, Bool.and_eq_true, Bool.and_eq_true, List.all_eq_true, List.all_eq_true, List.all_eq_true, List.all_eq_true] at h
  obtain ⟨⟨h1, h3, h4⟩, h2⟩ := h
  refine ⟨fun i hi x e => ?_, fun i hi x e => ?_, fun i hi x e => ?_, fun x hx => ?_⟩
  · have q := h1 i hi
    rw [e] at q
    simp only [Bool.and_eq_true, Bool.not_eq_true'] at q
    refine ⟨?_, q.1.2, q.2⟩
    have z := q.1.1
    unfold isVis at z
    unfold Vis
    split at z
    · exact .inl (by assumption)
    · exact .inr (.inl (by assumption))
    · exact .inr (.inr (by assumption))
    · cases z
  · have z := h3 i hi
    rw [e] at z
    dsimp only at z
    unfold isLoc at z
    split at z
    · assumption
    · cases z
  · have z := h4 i hi
    rw [e] at z
    dsimp only at z
    unfold isCel at z
    split at z
    · assumption
    · cases z
  · have q := h2 x hx
    simp only [Bool.and_eq_true, Bool.not_eq_true', decide_eq_true_eq] at q
    refine ⟨?_, q.1.2, q.2⟩
    have z := q.1.1
    unfold isGlo at z
    split at z
    · assumption
    · cases z

/-- what is told of the program and of the block -/
structure JC (P : Program) (w : World) (K : PySem.W.Frag) (mg : Str → Option Value) (base : Heap) (N : List Str) (sc : Scope) (vw : Vw) (k : Nat) (X : Cx) (W : WX) : Prop where
  prog : X.prog = P
  ww : X.w = w
  kk : X.K = K
  gg : X.mg = mg
  bb : X.base = base
  nn : X.N = N
  ss : X.env.scope = sc
  sC : Sc N sc vw
  nd : N.Nodup
  calm : X.calm = true
  room : Room k X.A
  tk : Takes X W
  kd : X.env.scope.kind = .function
/-- a def's own body -/
structure JD (P : Program) (w : World) (K : PySem.W.Frag) (mg : Str → Option Value) (base : Heap) (N : List Str) (sc : Scope) (vw : Vw) (k : Nat) (X : Cx) (W : WX) : Prop extends JC P w K mg base N sc vw k X W where
  po : PassesOwn (model X.prog X.w) X.A X.env X.xe
  fn : ∀ x, X.fn x = true
  hs : X.stack = X.env :: X.outer
  hf : X.env.frame = some X.env.locals

section
variable {P : Program} {w : World} {K : PySem.W.Frag} {mg : Str → Option Value} {base : Heap} {N : List Str} {sc : Scope} {vw : Vw} {k : Nat} {X : Cx} {W : WX}
theorem JC.gl (c : JC P w K mg base N sc vw k X W) {x : Str} (h : x ∈ vw.gs) : Gl X x := by
  show X.env.scope.names.lookup x = some .globalImplicit
  rw [c.ss]
  exact (c.sC.gl x h).1
end

/-! ### names, constants -/
def vr (i : Nat) : TEd := fun env S Q _ => match env[i]? with
  | some (some d) => Q d S
  | _ => False
def cn (d : D) : TEd := fun _ S Q _ => Q d S
section
variable {P : Program} {w : World} {K : PySem.W.Frag} {mg : Str → Option Value} {base : Heap} {N : List Str} {sc : Scope} {vw : Vw} {k : Nat} {X : Cx} {W : WX}
theorem moVr (i : Nat) : MoE (vr i) := fun env S Q Q' E E' h _ q => by
  unfold vr at q ⊢
  split at q
  · exact h _ _ q
  · exact q
theorem moCn (d : D) : MoE (cn d) := fun env S Q Q' E E' h _ q => h _ _ q
theorem jv (c : JC P w K mg base N sc vw k X W) (i : Nat) {x : Str} {pos : Pos} (hi : i ∈ vw.vl) (hN : N[i]? = some x) : JE X W (.Name x pos) (vr i) := by
  obtain ⟨v1, v2, v3⟩ := c.sC.vis i hi x hN
  refine ⟨PE.imp (pe_var (i := i) (by rw [c.nn]; exact hN) (by rw [c.ss]; exact v1) v2 v3) fun σ H Q h => ?_, moVr i⟩
  obtain ⟨Z, env, S, re, rs, q⟩ := h
  unfold vr at q
  split at q
  · rename_i d e
    obtain ⟨v, e1, r⟩ := re.at_ i d e
    exact ⟨v, e1, q v H (.refl rs) r⟩
  · exact q.elim
theorem LE.cn {W : WX} {d : D} {v : V} {σ : L2.St} {H : Hp} {Q : VK} (hr : ∀ Z S H, Rp ⟨K, Z⟩ S H d v) (h : LE K W (cn d) σ H Q) : Q v H := by
  obtain ⟨Z, env, S, re, rs, q⟩ := h
  exact q v H (.refl rs) (hr _ _ _)
theorem je_int {i : Int} {j : Nat} {pos : Pos} : JE X W (.Constant (.int i) j pos) (cn (.int i)) := ⟨PE.imp pe_int fun σ H Q h => LE.cn (fun _ _ _ => .int i) h, moCn _⟩
theorem je_bl {b : Bool} {j : Nat} {pos : Pos} : JE X W (.Constant (.bool b) j pos) (cn (.bl b)) := ⟨PE.imp pe_bl fun σ H Q h => LE.cn (fun _ _ _ => .bl b) h, moCn _⟩
theorem je_non {j : Nat} {pos : Pos} : JE X W (.Constant .none j pos) (cn .non) := ⟨PE.imp pe_non fun σ H Q h => LE.cn (fun _ _ _ => .non) h, moCn _⟩
theorem je_str {x : Str} {j : Nat} {pos : Pos} : JE X W (.Constant (.str x) j pos) (cn (.str x)) := ⟨PE.imp pe_str fun σ H Q h => LE.cn (fun _ _ _ => .str x) h, moCn _⟩
/-- a module's constant -/
structure GC (K : PySem.W.Frag) (mg : Str → Option Value) (x : Str) (d : D) : Prop where
  ex : ∃ u v, mg x = some u ∧ RelV v u ∧ ∀ Z S H, Rp ⟨K, Z⟩ S H d v
theorem je_glob (c : JC P w K mg base N sc vw k X W) {x : Str} {pos : Pos} {d : D} (hx : x ∈ vw.gs) (g : GC K mg x d) : JE X W (.Name x pos) (cn d) := by
  obtain ⟨u, v, e, r, q⟩ := g.ex
  have hk := c.kk
  subst hk
  exact ⟨PE.imp (pe_glob (c.gl hx) (by rw [c.gg]; exact e) r (c.sC.gl x hx).2.2) fun σ H Q h => LE.cn q h, moCn _⟩
end

/-! ### two operands -/
abbrev F2 := D → D → Sto → DK → Prop
def MoF2 (f : F2) : Prop := ∀ x y S (Q Q' : DK), (∀ d S, Q d S → Q' d S) → f x y S Q → f x y S Q'
def dTwo (ta tb : TEd) (f : F2) : TEd := fun env S Q E => ta env S (fun x S1 => tb env S1 (fun y S2 => f x y S2 Q) E) E
theorem moTwo {ta tb : TEd} {f : F2} (ha : MoE ta) (hb : MoE tb) (hf : MoF2 f) : MoE (dTwo ta tb f) := fun env S Q Q' E E' h he q =>
  ha _ _ _ _ _ _ (fun x S1 q1 => hb _ _ _ _ _ _ (fun y S2 q2 => hf _ _ _ _ _ h q2) he q1) he q
/-- what is wanted behind, from a state -/
abbrev PQ (K : Kz) (S : Sto) (H : Hp) (Q : VK) : DK := fun d S' => ∀ v H', Aft K S H S' H' → Rp K S' H' d v → Q v H'
theorem PQ.after {K : Kz} {S S1 : Sto} {H H1 : Hp} (a : Aft K S H S1 H1) {Q : VK} {d : D} {S2 : Sto} (h : PQ K S H Q d S2) : PQ K S1 H1 Q d S2 := fun v H' b r => h v H' (a.trans b) r
theorem two {K : PySem.W.Frag} {W : WX} {ta tb : TEd} {f : F2} (ha : MoE ta) (hb : MoE tb) (hf : MoF2 f) {σ : L2.St} {H : Hp} {Q : VK} (h : LE K W (dTwo ta tb f) σ H Q) :
    LE K W ta σ H fun x H1 => LE K W tb σ H1 fun y H2 => ∃ Z S dx dy, RS ⟨K, Z⟩ S H2 ∧ Rp ⟨K, Z⟩ S H2 dx x ∧ Rp ⟨K, Z⟩ S H2 dy y ∧ f dx dy S (PQ ⟨K, Z⟩ S H2 Q) := by
  obtain ⟨Z, env, S, re, rs, q⟩ := h
  refine LE.of ha re rs q (fun dx S1 x H1 q1 a1 r1 => ?_) fun x S1 c dx H1 q1 a1 r1 => q1 c dx H1 a1 r1
  refine LE.of hb (re.step a1.st rs) a1.rs q1 (fun dy S2 y H2 q2 a2 r2 => ?_) fun x S2 c dx H2 q2 a2 r2 => q2 c dx H2 (a1.trans a2) r2
  exact ⟨Z, S2, dx, dy, a2.rs, Rp.step a2.st a1.rs _ _ r1, r2, hf _ _ _ _ _ (fun d S3 q3 => PQ.after (a1.trans a2) q3) q2⟩

/-- an operator of two data -/
structure OpD (X : Cx) (g : Value → Value → Sem Value) (f : F2) : Prop where
  mo : MoF2 f
  run : ∀ (pins : List (Addr × Obj)) (s : Shared) (σ : L2.St) (H : Hp) (x y : V) (v u : Value) (Q : VK) (Z : Addr → Prop) (S : Sto) (dx dy : D), Inv X pins σ H s → RelV x v → RelV y u → RS ⟨X.K, Z⟩ S H → Rp ⟨X.K, Z⟩ S H dx x → Rp ⟨X.K, Z⟩ S H dy y →
    f dx dy S (PQ ⟨X.K, Z⟩ S H Q) → wpAny (model X.prog X.w) X.A (g v u) (EP X pins σ Q) X.xe s
section
variable {X : Cx} {W : WX} {a b : Expr} {ta tb : TEd} {pos : Pos}
theorem je_op {op : Operator} {f : F2} (ho : OpD X (binaryOp op) f) (ha : JE X W a ta) (hb : JE X W b tb) : JE X W (.BinOp a op b pos) (dTwo ta tb f) := by
  refine ⟨⟨fun pins s σ H Q I h => ?_⟩, moTwo ha.mo hb.mo ho.mo⟩
  refine wpAny_BinOp (bin ha.pe hb.pe I (two ha.mo hb.mo ho.mo h) fun v u s2 x y H2 I2 rx ry q => ?_)
  obtain ⟨Z, S, dx, dy, rs, r1, r2, q⟩ := q
  exact ho.run pins s2 σ H2 x y v u Q Z S dx dy I2 rx ry rs r1 r2 q
theorem je_cmp {op : CmpOp} {f : F2} (ho : OpD X (compareOp op) f) (ha : JE X W a ta) (hb : JE X W b tb) (hm : behindInMarks op b = false) : JE X W (.Compare a [op] [b] pos) (dTwo ta tb f) := by
  refine ⟨⟨fun pins s σ H Q I h => ?_⟩, moTwo ha.mo hb.mo ho.mo⟩
  refine wpAny_Compare1 (bin ha.pe hb.pe I (two ha.mo hb.mo ho.mo h) fun v u s2 x y H2 I2 rx ry q => ?_) hm
  obtain ⟨Z, S, dx, dy, rs, r1, r2, q⟩ := q
  exact ho.run pins s2 σ H2 x y v u Q Z S dx dy I2 rx ry rs r1 r2 q
end

/-! ### tests -/
/-- a value that is a truth, as a test -/
def tbl (t : TEd) : TTd := fun env S Q E => t env S (fun d S' => match d with | .bl b => Q b S' | _ => False) E
theorem moTbl {t : TEd} (h : MoE t) : MoE (tbl t) := fun env S Q Q' E E' hq he q => h _ _ _ _ _ _ (fun d S1 q1 => by
  cases d <;> first | exact hq _ _ q1 | exact q1) he q
theorem tblV {K : PySem.W.Frag} {W : WX} {t : TEd} (mo : MoE t) {σ : L2.St} {H : Hp} {Q : Bool → Hp → Prop} (h : LT K W (tbl t) σ H Q) : LE K W t σ H fun x H1 => ∃ c, x = .bl c ∧ Q c H1 := by
  obtain ⟨Z, env, S, re, rs, q⟩ := h
  refine LE.of mo re rs q (fun d S1 x H1 q1 a1 r1 => ?_) fun x S1 c dx H1 q1 a1 r1 => q1 c dx H1 a1 r1
  cases d <;> first | exact q1.elim | skip
  rename_i b
  cases r1
  exact ⟨b, rfl, q1 H1 a1⟩
/-- any value, by its truth -/
def truD : D → Sto → (Bool → Sto → Prop) → Prop := fun d S Q => match d with
  | .non => Q false S
  | .bl b => Q b S
  | .int i => Q (i != 0) S
  | .str x => x.length ≤ sizeLine ∧ Q ((x.length : Int) != 0) S
  | .tup ds => Q (!ds.isEmpty) S
  | .lst ds => Q (!ds.isEmpty) S
  | .ref a => match S a with | some ds => Q (!ds.isEmpty) S | none => False
  | .obj _ => False
def ttr (t : TEd) : TTd := fun env S Q E => t env S (fun d S' => truD d S' Q) E
theorem moTruD {d : D} {S : Sto} {Q Q' : Bool → Sto → Prop} (h : ∀ b S, Q b S → Q' b S) (q : truD d S Q) : truD d S Q' := by
  unfold truD at q ⊢
  cases d <;> first
    | exact h _ _ q
    | exact ⟨q.1, h _ _ q.2⟩
    | (dsimp only at q ⊢; split at q <;> first | exact h _ _ q | exact q.elim)
    | exact q
theorem moTtr {t : TEd} (h : MoE t) : MoE (ttr t) := fun env S Q Q' E E' hq he q => h _ _ _ _ _ _ (fun d S1 q1 => moTruD hq q1) he q
theorem isEmpty_rpl {K : Kz} {S : Sto} {H : Hp} {ds : List D} {vs : List V} (r : RpL K S H ds vs) : ds.isEmpty = vs.isEmpty := by
  cases r <;> rfl
theorem SqL.ofK {K : PySem.W.Frag} {H : Hp} {a : Addr} {vs : List V} (h : KL K a vs) : SqL K H a vs := .inr h
theorem truV {K : Kz} {S : Sto} {H : Hp} {d : D} {v : V} (rs : RS K S H) (r : Rp K S H d v) {Q : Bool → Hp → Prop} (q : truD d S fun b S' => ∀ H', Aft K S H S' H' → Q b H') : ∃ k, TruV K.K v H k ∧ Q k H := by
  have a0 : Aft K S H S H := .refl rs
  cases r with
  | non => exact ⟨false, rfl, q H a0⟩
  | bl b => exact ⟨b, rfl, q H a0⟩
  | int i => exact ⟨_, rfl, q H a0⟩
  | str x => exact ⟨_, ⟨q.1, rfl⟩, q.2 H a0⟩
  | tup hs ha => exact ⟨_, .inr (.inl ⟨_, hs, rfl⟩), by rw [← isEmpty_rpl ha]; exact q H a0⟩
  | lst hs hn hz ha => exact ⟨_, .inl ⟨_, .inl hs, rfl⟩, by rw [← isEmpty_rpl ha]; exact q H a0⟩
  | lstK hs ha => exact ⟨_, .inl ⟨_, SqL.ofK hs, rfl⟩, by rw [← isEmpty_rpl ha]; exact q H a0⟩
  | ref a =>
    unfold truD at q
    dsimp only at q
    split at q
    · rename_i ds e
      obtain ⟨vs, e1, r1⟩ := rs.at_ a ds e
      exact ⟨_, .inl ⟨_, SqL.of e1, rfl⟩, by rw [← isEmpty_rpl r1]; exact q H a0⟩
    · exact q.elim
  | obj a => exact q.elim
def tAndD (t u : TTd) : TTd := fun env S Q E => t env S (fun c S1 => if c = true then u env S1 Q E else Q false S1) E
def tOrD (t u : TTd) : TTd := fun env S Q E => t env S (fun c S1 => if c = true then Q true S1 else u env S1 Q E) E
def tNotD (t : TTd) : TTd := fun env S Q E => t env S (fun c S1 => Q (!c) S1) E
/-- and, or, not, a comparison as values: truths -/
def vOf (t : TTd) : TEd := fun env S Q E => t env S (fun c S1 => Q (.bl c) S1) E
def eIf (t : TTd) (ta tb : TEd) : TEd := fun env S Q E => t env S (fun c S1 => if c = true then ta env S1 Q E else tb env S1 Q E) E
section
variable {X : Cx} {W : WX} {a b : Expr} {ta tb : TEd} {pos : Pos} {t u : TTd} {rest : List Expr}
theorem jt_tru (h : JE X W a ta) (he : ∀ whole, isTrue a X.env whole = (do let v ← whole; standAt a.pos; holding [v] (truthy v)) := by intro _; rfl) : JT X W a (ttr ta) := by
  refine ⟨PT.imp (pt_truth h.pe he) fun σ H Q q => ?_, moTtr h.mo⟩
  obtain ⟨Z, env, S, re, rs, q⟩ := q
  refine LE.of h.mo re rs q (fun d S1 x H1 q1 a1 r1 => ?_) fun x S1 c dx H1 q1 a1 r1 => q1 c dx H1 a1 r1
  exact truV a1.rs r1 (moTruD (fun b S2 q2 H2 a2 => q2 H2 (a1.trans a2)) q1)
theorem jt_cmp {op : CmpOp} {f : F2} (ho : OpD X (compareOp op) f) (ha : JE X W a ta) (hb : JE X W b tb) (hm : behindInMarks op b = false) : JT X W (.Compare a [op] [b] pos) (tbl (dTwo ta tb f)) := by
  refine ⟨⟨fun pins s σ H Q I h => ?_⟩, moTbl (moTwo ha.mo hb.mo ho.mo)⟩
  refine wpAny_isTrue_Compare1 (thn (bin ha.pe hb.pe I (two ha.mo hb.mo ho.mo (tblV (moTwo ha.mo hb.mo ho.mo) h)) fun v u s2 x y H2 I2 rx ry q => ?_) fun v s1 h1 => thn h1 fun u s2 h2 => thn h2 fun c s3 z => z) hm
  obtain ⟨Z, S, dx, dy, rs, r1, r2, q⟩ := q
  refine thn (ho.run pins s2 σ H2 x y v u _ Z S dx dy I2 rx ry rs r1 r2 q) fun c s3 ⟨x, H1, I1, r1, q1⟩ => ?_
  obtain ⟨d, rfl, q⟩ := q1
  cases r1
  exact wpAny_truthy_bool ⟨H1, I1, q⟩
theorem jt_w (h : JW X W a t) : JT X W a t := ⟨h.pw.pt, h.mo⟩
theorem moAndD (h : MoE t) (h2 : MoE u) : MoE (tAndD t u) := fun env S Q Q' E E' hq he q => h _ _ _ _ _ _ (fun c S1 q1 => by
  cases c
  · exact hq _ _ q1
  · exact h2 _ _ _ _ _ _ hq he q1) he q
theorem moOrD (h : MoE t) (h2 : MoE u) : MoE (tOrD t u) := fun env S Q Q' E E' hq he q => h _ _ _ _ _ _ (fun c S1 q1 => by
  cases c
  · exact h2 _ _ _ _ _ _ hq he q1
  · exact hq _ _ q1) he q
theorem moNotD (h : MoE t) : MoE (tNotD t) := fun env S Q Q' E E' hq he q => h _ _ _ _ _ _ (fun c S1 q1 => hq _ _ q1) he q
theorem moVOf (h : MoE t) : MoE (vOf t) := fun env S Q Q' E E' hq he q => h _ _ _ _ _ _ (fun c S1 q1 => hq _ _ q1) he q
theorem moEIf (h : MoE t) (ha : MoE ta) (hb : MoE tb) : MoE (eIf t ta tb) := fun env S Q Q' E E' hq he q => h _ _ _ _ _ _ (fun c S1 q1 => by
  cases c
  · exact hb _ _ _ _ _ _ hq he q1
  · exact ha _ _ _ _ _ _ hq he q1) he q
theorem jw_and1 (ha : JT X W a t) : JW X W (.BoolOp .And [a] pos) t := ⟨pw_and1 ha.pt, ha.mo⟩
theorem jw_or1 (ha : JT X W a t) : JW X W (.BoolOp .Or [a] pos) t := ⟨pw_or1 ha.pt, ha.mo⟩
theorem jw_and (ha : JT X W a t) (hb : JW X W (.BoolOp .And (b :: rest) pos) u) : JW X W (.BoolOp .And (a :: b :: rest) pos) (tAndD t u) := by
  refine ⟨PW.imp (pw_and ha.pt hb.pw) fun σ H Q h => ?_, moAndD ha.mo hb.mo⟩
  obtain ⟨Z, env, S, re, rs, q⟩ := h
  refine LT.of ha.mo re rs q (fun c S1 H1 q1 a1 => ?_) fun x S1 c dx H1 q1 a1 r1 => q1 c dx H1 a1 r1
  cases c with
  | false => exact iteF (q1 H1 a1)
  | true => exact iteT (LT.of hb.mo (re.step a1.st rs) a1.rs q1 (fun c2 S2 H2 q2 a2 => q2 H2 (a1.trans a2)) fun x S2 c dx H2 q2 a2 r2 => q2 c dx H2 (a1.trans a2) r2)
theorem jw_or (ha : JT X W a t) (hb : JW X W (.BoolOp .Or (b :: rest) pos) u) : JW X W (.BoolOp .Or (a :: b :: rest) pos) (tOrD t u) := by
  refine ⟨PW.imp (pw_or ha.pt hb.pw) fun σ H Q h => ?_, moOrD ha.mo hb.mo⟩
  obtain ⟨Z, env, S, re, rs, q⟩ := h
  refine LT.of ha.mo re rs q (fun c S1 H1 q1 a1 => ?_) fun x S1 c dx H1 q1 a1 r1 => q1 c dx H1 a1 r1
  cases c with
  | true => exact iteT (q1 H1 a1)
  | false => exact iteF (LT.of hb.mo (re.step a1.st rs) a1.rs q1 (fun c2 S2 H2 q2 a2 => q2 H2 (a1.trans a2)) fun x S2 c dx H2 q2 a2 r2 => q2 c dx H2 (a1.trans a2) r2)
theorem jt_not (ha : JT X W a t) : JT X W (.UnaryOp .Not a pos) (tNotD t) := by
  refine ⟨PT.imp (pt_not ha.pt) fun σ H Q h => ?_, moNotD ha.mo⟩
  obtain ⟨Z, env, S, re, rs, q⟩ := h
  exact LT.of ha.mo re rs q (fun c S1 H1 q1 a1 => q1 H1 a1) fun x S1 c dx H1 q1 a1 r1 => q1 c dx H1 a1 r1
theorem je_ifExp {c : Expr} (hc : JT X W c t) (ha : JE X W a ta) (hb : JE X W b tb) : JE X W (.IfExp c a b pos) (eIf t ta tb) := by
  refine ⟨PE.imp (pe_ifExp hc.pt ha.pe hb.pe) fun σ H Q h => ?_, moEIf hc.mo ha.mo hb.mo⟩
  obtain ⟨Z, env, S, re, rs, q⟩ := h
  refine LT.of hc.mo re rs q (fun c S1 H1 q1 a1 => ?_) fun x S1 c dx H1 q1 a1 r1 => q1 c dx H1 a1 r1
  cases c with
  | true => exact iteT (LE.of ha.mo (re.step a1.st rs) a1.rs q1 (fun d S2 v H2 q2 a2 r2 => q2 v H2 (a1.trans a2) r2) fun x S2 c dx H2 q2 a2 r2 => q2 c dx H2 (a1.trans a2) r2)
  | false => exact iteF (LE.of hb.mo (re.step a1.st rs) a1.rs q1 (fun d S2 v H2 q2 a2 r2 => q2 v H2 (a1.trans a2) r2) fun x S2 c dx H2 q2 a2 r2 => q2 c dx H2 (a1.trans a2) r2)
/-! truths as values -/
theorem je_one {op : BoolOp} (h : JE X W a ta) : JE X W (.BoolOp op [a] pos) ta := ⟨pe_one h.pe, h.mo⟩
theorem je_and (ha : JE X W a ta) (hb : JE X W (.BoolOp .And (b :: rest) pos) tb) : JE X W (.BoolOp .And (a :: b :: rest) pos) (eIf (tbl ta) tb (cn (.bl false))) := by
  refine ⟨PE.imp (pe_and ha.pe hb.pe) fun σ H Q h => ?_, moEIf (moTbl ha.mo) hb.mo (moCn _)⟩
  obtain ⟨Z, env, S, re, rs, q⟩ := h
  refine LE.of ha.mo re rs q (fun d S1 x H1 q1 a1 r1 => ?_) fun x S1 c dx H1 q1 a1 r1 => q1 c dx H1 a1 r1
  cases d <;> first | exact q1.elim | skip
  rename_i c
  cases r1
  refine ⟨c, rfl, ?_⟩
  cases c with
  | true => exact iteT (LE.of hb.mo (re.step a1.st rs) a1.rs q1 (fun d S2 v H2 q2 a2 r2 => q2 v H2 (a1.trans a2) r2) fun x S2 c dx H2 q2 a2 r2 => q2 c dx H2 (a1.trans a2) r2)
  | false => exact iteF (q1 _ H1 a1 (.bl false))
def vNot (ta : TEd) : TEd := vOf (tNotD (tbl ta))
end

/-! ### whole numbers -/
def CMul' (i j : Int) : Prop := i.natAbs.log2 + j.natAbs.log2 < 1000000
def CDiv' (j : Int) : Prop := j ≠ 0 ∧ j.natAbs.log2 < 9000
def fAdd : F2 := fun x y S Q => match x, y with
  | .int i, .int j => Q (.int (i + j)) S
  | .str i, .str j => i.length + j.length ≤ sizeLine ∧ Q (.str (i ++ j)) S
  | .tup a, .tup b => a.length + b.length ≤ sizeLine ∧ Q (.tup (a ++ b)) S
  | _, _ => False
def fSub : F2 := fun x y S Q => match x, y with
  | .int i, .int j => Q (.int (i - j)) S
  | _, _ => False
def fMul : F2 := fun x y S Q => match x, y with
  | .int i, .int j => CMul' i j ∧ Q (.int (i * j)) S
  | _, _ => False
def fDiv : F2 := fun x y S Q => match x, y with
  | .int i, .int j => CDiv' j ∧ Q (.int (i.fdiv j)) S
  | _, _ => False
def fMod : F2 := fun x y S Q => match x, y with
  | .int i, .int j => j ≠ 0 ∧ Q (.int (i.fmod j)) S
  | _, _ => False
def fPow : F2 := fun x y S Q => match x, y with
  | .int i, .int j => 0 ≤ j ∧ (Builtin.Int.intBits i : Int) * j ≤ 2 ^ 27 ∧ Q (.int (i ^ j.toNat)) S
  | _, _ => False
def fShl : F2 := fun x y S Q => match x, y with
  | .int i, .int j => (0 ≤ j ∧ j ≤ 1000000 ∧ i.natAbs < 2 ^ 64) ∧ Q (.int (i * 2 ^ j.toNat)) S
  | _, _ => False
def fLt : F2 := fun x y S Q => match x, y with
  | .int i, .int j => Q (.bl (decide (i < j))) S
  | _, _ => False
def fLe : F2 := fun x y S Q => match x, y with
  | .int i, .int j => Q (.bl (decide (i ≤ j))) S
  | _, _ => False
def fGt : F2 := fun x y S Q => match x, y with
  | .int i, .int j => Q (.bl (decide (j < i))) S
  | _, _ => False
def fGe : F2 := fun x y S Q => match x, y with
  | .int i, .int j => Q (.bl (decide (j ≤ i))) S
  | _, _ => False
theorem moAdd : MoF2 fAdd := by (intro x y S Q Q' h q; unfold fAdd at q ⊢; split at q <;> first | exact h _ _ q | exact ⟨q.1, h _ _ q.2⟩ | exact ⟨q.1, q.2.1, h _ _ q.2.2⟩ | exact q.elim)
theorem moSub : MoF2 fSub := by (intro x y S Q Q' h q; unfold fSub at q ⊢; split at q <;> first | exact h _ _ q | exact ⟨q.1, h _ _ q.2⟩ | exact ⟨q.1, q.2.1, h _ _ q.2.2⟩ | exact q.elim)
theorem moMul : MoF2 fMul := by (intro x y S Q Q' h q; unfold fMul at q ⊢; split at q <;> first | exact h _ _ q | exact ⟨q.1, h _ _ q.2⟩ | exact ⟨q.1, q.2.1, h _ _ q.2.2⟩ | exact q.elim)
theorem moDiv : MoF2 fDiv := by (intro x y S Q Q' h q; unfold fDiv at q ⊢; split at q <;> first | exact h _ _ q | exact ⟨q.1, h _ _ q.2⟩ | exact ⟨q.1, q.2.1, h _ _ q.2.2⟩ | exact q.elim)
theorem moMod : MoF2 fMod := by (intro x y S Q Q' h q; unfold fMod at q ⊢; split at q <;> first | exact h _ _ q | exact ⟨q.1, h _ _ q.2⟩ | exact ⟨q.1, q.2.1, h _ _ q.2.2⟩ | exact q.elim)
theorem moPow : MoF2 fPow := by (intro x y S Q Q' h q; unfold fPow at q ⊢; split at q <;> first | exact h _ _ q | exact ⟨q.1, h _ _ q.2⟩ | exact ⟨q.1, q.2.1, h _ _ q.2.2⟩ | exact q.elim)
theorem moShl : MoF2 fShl := by (intro x y S Q Q' h q; unfold fShl at q ⊢; split at q <;> first | exact h _ _ q | exact ⟨q.1, h _ _ q.2⟩ | exact ⟨q.1, q.2.1, h _ _ q.2.2⟩ | exact q.elim)
theorem moLt : MoF2 fLt := by (intro x y S Q Q' h q; unfold fLt at q ⊢; split at q <;> first | exact h _ _ q | exact ⟨q.1, h _ _ q.2⟩ | exact ⟨q.1, q.2.1, h _ _ q.2.2⟩ | exact q.elim)
theorem moLe : MoF2 fLe := by (intro x y S Q Q' h q; unfold fLe at q ⊢; split at q <;> first | exact h _ _ q | exact ⟨q.1, h _ _ q.2⟩ | exact ⟨q.1, q.2.1, h _ _ q.2.2⟩ | exact q.elim)
theorem moGt : MoF2 fGt := by (intro x y S Q Q' h q; unfold fGt at q ⊢; split at q <;> first | exact h _ _ q | exact ⟨q.1, h _ _ q.2⟩ | exact ⟨q.1, q.2.1, h _ _ q.2.2⟩ | exact q.elim)
theorem moGe : MoF2 fGe := by (intro x y S Q Q' h q; unfold fGe at q ⊢; split at q <;> first | exact h _ _ q | exact ⟨q.1, h _ _ q.2⟩ | exact ⟨q.1, q.2.1, h _ _ q.2.2⟩ | exact q.elim)
theorem RS.newN {K : Kz} {S : Sto} {H : Hp} {p : Addr} {o : HO} (rs : RS K S H) (hp : H p = none) : Aft K S H S (upd H p o) := by
  have st : Step S H S (upd H p o) := fun b u h n => ⟨n, by rw [upd_ne (ne_of_none h hp)]; exact h⟩
  refine ⟨st, fun a es e => ?_, fun b hb => ?_⟩
  · obtain ⟨ws, q, r⟩ := rs.at_ a es e
    exact ⟨ws, by rw [upd_ne (ne_of_none q hp)]; exact q, RpL.step st rs _ _ r⟩
  · obtain ⟨n, vs, q⟩ := rs.hid b hb
    exact ⟨n, vs, by rw [upd_ne (ne_of_none q hp)]; exact q⟩
theorem RS.nz {K : Kz} {S : Sto} {H : Hp} {p : Addr} (rs : RS K S H) (hp : H p = none) : ¬ K.Z p := fun z => by
  obtain ⟨_, vs, q⟩ := rs.hid p z
  rw [hp] at q
  cases q
theorem Rp.newT {K : Kz} {S : Sto} {H : Hp} {ds : List D} {vs : List V} {p : Addr} (rs : RS K S H) (hp : H p = none) (r : RpL K S H ds vs) : Aft K S H S (upd H p (.tup vs)) ∧ Rp K S (upd H p (.tup vs)) (.tup ds) (.ref p) := by
  have a := rs.newN (o := .tup vs) hp
  exact ⟨a, .tup (SqT.of upd_same) (RpL.step a.st rs _ _ r)⟩
theorem Rp.newL {K : Kz} {S : Sto} {H : Hp} {ds : List D} {vs : List V} {p : Addr} (rs : RS K S H) (hp : H p = none) (r : RpL K S H ds vs) : Aft K S H S (upd H p (.lst vs)) ∧ Rp K S (upd H p (.lst vs)) (.lst ds) (.ref p) := by
  have a := rs.newN (o := .lst vs) hp
  exact ⟨a, .lst (.inl upd_same) (rs.free hp) (rs.nz hp) (RpL.step a.st rs _ _ r)⟩
/-- a grown list's items are told anew -/
theorem RS.tell {K : Kz} {S S' : Sto} {H H' : Hp} {ds : List D} {vs : List V} {p : Addr} (rs : RS K S H) (st : Step S H (sup S p ds) (upd H p (.lst vs))) (nz : ¬ K.Z p) (r : RpL K S H ds vs) : Aft K S H (sup S p ds) (upd H p (.lst vs)) := by
  refine ⟨st, fun a es e => ?_, fun b hb => ?_⟩
  · by_cases ha : a = p
    · subst ha
      rw [sup_same] at e
      cases e
      exact ⟨vs, upd_same, RpL.step st rs _ _ r⟩
    · rw [sup_ne ha] at e
      obtain ⟨ws, q, r⟩ := rs.at_ a es e
      exact ⟨ws, by rw [upd_ne ha]; exact q, RpL.step st rs _ _ r⟩
  · have ne : b ≠ p := fun z => nz (z ▸ hb)
    obtain ⟨n, ws, q⟩ := rs.hid b hb
    exact ⟨by rw [sup_ne ne]; exact n, ws, by rw [upd_ne ne]; exact q⟩
/-- a list that is to be grown -/
theorem Rp.newR {K : Kz} {S : Sto} {H : Hp} {ds : List D} {vs : List V} {p : Addr} (rs : RS K S H) (hp : H p = none) (r : RpL K S H ds vs) : Aft K S H (sup S p ds) (upd H p (.lst vs)) :=
  rs.tell (S' := S) (H' := H) (fun b o h n => ⟨by rw [sup_ne (ne_of_none h hp)]; exact n, by rw [upd_ne (ne_of_none h hp)]; exact h⟩) (rs.nz hp) r
theorem RS.nzS {K : Kz} {S : Sto} {H : Hp} {p : Addr} {es : List D} (rs : RS K S H) (hp : S p = some es) : ¬ K.Z p := fun z => by
  have n := (rs.hid p z).1
  rw [hp] at n
  cases n
/-- a grown list is written -/
theorem Rp.putR {K : Kz} {S : Sto} {H : Hp} {ds es : List D} {vs : List V} {p : Addr} (rs : RS K S H) (hp : S p = some es) (r : RpL K S H ds vs) : Aft K S H (sup S p ds) (upd H p (.lst vs)) := by
  have np : ∀ b, S b = none → b ≠ p := fun b n e => by rw [e, hp] at n; cases n
  exact rs.tell (S' := S) (H' := H) (fun b o h n => ⟨by rw [sup_ne (np b n)]; exact n, by rw [upd_ne (np b n)]; exact h⟩) (rs.nzS hp) r
/-- a grown list is grown no more -/
theorem Rp.frz {K : Kz} {S : Sto} {H : Hp} {ds : List D} {p : Addr} (rs : RS K S H) (hp : S p = some ds) : Aft K S H (sdel S p) H ∧ Rp K (sdel S p) H (.lst ds) (.ref p) := by
  have np : ∀ b, S b = none → b ≠ p := fun b n e => by rw [e, hp] at n; cases n
  have st : Step S H (sdel S p) H := fun b o h n => ⟨by rw [sdel_ne (np b n)]; exact n, h⟩
  obtain ⟨vs, e, r⟩ := rs.at_ p ds hp
  refine ⟨⟨st, fun a es q => ?_, fun b hb => ?_⟩, .lst (.inl e) sdel_same (rs.nzS hp) (RpL.step st rs _ _ r)⟩
  · by_cases ha : a = p
    · subst ha
      rw [sdel_same] at q
      cases q
    · rw [sdel_ne ha] at q
      obtain ⟨ws, z, r⟩ := rs.at_ a es q
      exact ⟨ws, z, RpL.step st rs _ _ r⟩
  · obtain ⟨n, q⟩ := rs.hid b hb
    exact ⟨by rw [sdel_ne (np b n)]; exact n, q⟩
section
variable {X : Cx}
theorem opD_add : OpD X (binaryOp .Add) fAdd := by
  refine ⟨moAdd, fun pins s σ H x y v u Q Z S dx dy I rx ry rs r1 r2 h => ?_⟩
  cases r1 with
  | int i =>
    cases r2 with
    | int j => exact op_add pins s σ H _ _ v u Q I rx ry ⟨i, j, rfl, rfl, h _ H (.refl rs) (.int _)⟩
    | _ => exact h.elim
  | str i =>
    cases r2 with
    | str j => exact op_add_str pins s σ H _ _ v u Q I rx ry ⟨i, j, rfl, rfl, h.1, h.2 _ H (.refl rs) (.str _)⟩
    | _ => exact h.elim
  | tup hs ha =>
    cases r2 with
    | tup hs2 ha2 =>
      rename_i a xs ds b ys es
      have l1 := ha.length
      have l2 := ha2.length
      refine op_catA pins s σ H _ _ v u Q I rx ry ⟨a, b, xs, ys, rfl, rfl, hs, hs2, by rw [← l1, ← l2]; exact h.1, fun e => ?_, fun _ e => ?_, fun _ _ p hp => ?_⟩
      · subst e
        cases ha
        exact h.2 _ H (.refl rs) (.tup hs2 ha2)
      · subst e
        cases ha2
        exact h.2 _ H (.refl rs) (by rw [List.append_nil]; exact .tup hs ha)
      · obtain ⟨a1, r⟩ := Rp.newT rs hp (ha.append ha2)
        exact h.2 _ _ a1 r
    | _ => exact h.elim
  | _ => cases r2 <;> exact h.elim
theorem opD_sub : OpD X (binaryOp .Sub) fSub := by
  refine ⟨moSub, fun pins s σ H x y v u Q Z S dx dy I rx ry rs r1 r2 h => ?_⟩
  cases r1 <;> cases r2 <;> first | exact h.elim | skip
  exact op_sub pins s σ H _ _ v u Q I rx ry ⟨_, _, rfl, rfl, h _ H (.refl rs) (.int _)⟩
theorem opD_mul : OpD X (binaryOp .Mult) fMul := by
  refine ⟨moMul, fun pins s σ H x y v u Q Z S dx dy I rx ry rs r1 r2 h => ?_⟩
  cases r1 <;> cases r2 <;> first | exact h.elim | skip
  exact op_mulW pins s σ H _ _ v u Q I rx ry ⟨_, _, rfl, rfl, h.1, h.2 _ H (.refl rs) (.int _)⟩
theorem opD_div : OpD X (binaryOp .FloorDiv) fDiv := by
  refine ⟨moDiv, fun pins s σ H x y v u Q Z S dx dy I rx ry rs r1 r2 h => ?_⟩
  cases r1 <;> cases r2 <;> first | exact h.elim | skip
  obtain ⟨t, rfl⟩ := rx
  obtain ⟨t', rfl⟩ := ry
  exact floordiv_int h.1.1 ⟨.int _, H, I.tok _, ⟨_, rfl⟩, h.2 _ H (.refl rs) (.int _)⟩ (.inl (PyProof.noPylong_of_log2 h.1.2))
theorem opD_mod : OpD X (binaryOp .Mod) fMod := by
  refine ⟨moMod, fun pins s σ H x y v u Q Z S dx dy I rx ry rs r1 r2 h => ?_⟩
  cases r1 <;> cases r2 <;> first | exact h.elim | skip
  exact op_modN pins s σ H _ _ v u Q I rx ry ⟨_, _, rfl, rfl, h.1, h.2 _ H (.refl rs) (.int _)⟩
theorem opD_pow : OpD X (binaryOp .Pow) fPow := by
  refine ⟨moPow, fun pins s σ H x y v u Q Z S dx dy I rx ry rs r1 r2 h => ?_⟩
  cases r1 <;> cases r2 <;> first | exact h.elim | skip
  obtain ⟨t, rfl⟩ := rx
  obtain ⟨t', rfl⟩ := ry
  exact pow_int h.1 h.2.1 ⟨.int _, H, I.tok _, ⟨_, rfl⟩, h.2.2 _ H (.refl rs) (.int _)⟩
theorem opD_shl : OpD X (binaryOp .LShift) fShl := by
  refine ⟨moShl, fun pins s σ H x y v u Q Z S dx dy I rx ry rs r1 r2 h => ?_⟩
  cases r1 <;> cases r2 <;> first | exact h.elim | skip
  exact op_shl pins s σ H _ _ v u Q I rx ry ⟨_, _, rfl, rfl, h.1, h.2 _ H (.refl rs) (.int _)⟩
theorem opD_lt : OpD X (compareOp .Lt) fLt := by
  refine ⟨moLt, fun pins s σ H x y v u Q Z S dx dy I rx ry rs r1 r2 h => ?_⟩
  cases r1 <;> cases r2 <;> first | exact h.elim | skip
  exact op_lt pins s σ H _ _ v u Q I rx ry ⟨_, _, rfl, rfl, h _ H (.refl rs) (.bl _)⟩
theorem opD_le : OpD X (compareOp .LtE) fLe := by
  refine ⟨moLe, fun pins s σ H x y v u Q Z S dx dy I rx ry rs r1 r2 h => ?_⟩
  cases r1 <;> cases r2 <;> first | exact h.elim | skip
  exact op_le pins s σ H _ _ v u Q I rx ry ⟨_, _, rfl, rfl, h _ H (.refl rs) (.bl _)⟩
theorem opD_gt : OpD X (compareOp .Gt) fGt := by
  refine ⟨moGt, fun pins s σ H x y v u Q Z S dx dy I rx ry rs r1 r2 h => ?_⟩
  cases r1 <;> cases r2 <;> first | exact h.elim | skip
  exact op_gt pins s σ H _ _ v u Q I rx ry ⟨_, _, rfl, rfl, h _ H (.refl rs) (.bl _)⟩
theorem opD_ge : OpD X (compareOp .GtE) fGe := by
  refine ⟨moGe, fun pins s σ H x y v u Q Z S dx dy I rx ry rs r1 r2 h => ?_⟩
  cases r1 <;> cases r2 <;> first | exact h.elim | skip
  exact op_ge pins s σ H _ _ v u Q I rx ry ⟨_, _, rfl, rfl, h _ H (.refl rs) (.bl _)⟩
end
end Bl

namespace Bl
open PySem PySem.Spec PyProof.Rows L2

/-! ### equality -/
mutual
def py : D → PyData
  | .non => .none
  | .bl b => .bool b
  | .int i => .int i
  | .str x => .str x
  | .tup ds => .tuple (pyL ds)
  | .lst ds => .list (pyL ds)
  | .ref _ => .none
  | .obj _ => .none
def pyL : List D → List PyData
  | [] => []
  | d :: ds => py d :: pyL ds
end
mutual
/-- no address within -/
def pl : D → Bool
  | .non => true
  | .bl _ => true
  | .int _ => true
  | .str _ => true
  | .tup ds => plL ds
  | .lst ds => plL ds
  | .ref _ => false
  | .obj _ => false
def plL : List D → Bool
  | [] => true
  | d :: ds => pl d && plL ds
end
section
variable {K : Kz} {S : Sto} {H : Hp}
mutual
theorem Rp.dp : ∀ (d : D) (v : V), pl d = true → Rp K S H d v → Dp K.K H v (py d)
  | .non, _, _, h => by cases h; exact .non
  | .bl b, _, _, h => by cases h; exact .bl b
  | .int i, _, _, h => by cases h; exact .int i
  | .str x, _, _, h => by cases h; exact .str x
  | .tup ds, _, p, h => by
    cases h with
    | tup hs ha => exact .tup hs (RpL.dp ds _ p ha)
  | .lst ds, _, p, h => by
    cases h with
    | lst hs hn hz ha => exact .lst (.inl hs) (RpL.dp ds _ p ha)
    | lstK hs ha => exact .lst (SqL.ofK hs) (RpL.dp ds _ p ha)
  | .ref _, _, p, _ => by cases p
  | .obj _, _, p, _ => by cases p
theorem RpL.dp : ∀ (ds : List D) (vs : List V), plL ds = true → RpL K S H ds vs → DpAll K.K H vs (pyL ds)
  | [], _, _, h => by cases h; exact .nil
  | d :: ds, _, p, h => by
    have p' : (pl d && plL ds) = true := p
    rw [Bool.and_eq_true] at p'
    cases h with
    | cons h1 h2 => exact .cons (Rp.dp d _ p'.1 h1) (RpL.dp ds _ p'.2 h2)
end
end
/-- data that == takes -/
def okD (d : D) : Prop := pl d = true ∧ SeqAt.shaped (py d) = true
def eqD (x y : D) : Bool := PyData.eqv (py x) (py y)
def fEq : F2 := fun x y S Q => okD x ∧ okD y ∧ Q (.bl (eqD x y)) S
def fNe : F2 := fun x y S Q => okD x ∧ okD y ∧ Q (.bl (!eqD x y)) S
theorem moEq : MoF2 fEq := fun x y S Q Q' h q => ⟨q.1, q.2.1, h _ _ q.2.2⟩
theorem moNe : MoF2 fNe := fun x y S Q Q' h q => ⟨q.1, q.2.1, h _ _ q.2.2⟩
def isN : D → Bool
  | .non => true
  | _ => false
def fIs : F2 := fun x y S Q => match y with
  | .non => Q (.bl (isN x)) S
  | _ => False
def fIsNot : F2 := fun x y S Q => match y with
  | .non => Q (.bl (!isN x)) S
  | _ => False
theorem moIs : MoF2 fIs := fun x y S Q Q' h q => by
  unfold fIs at q ⊢
  split at q <;> first | exact h _ _ q | exact q
theorem moIsNot : MoF2 fIsNot := fun x y S Q Q' h q => by
  unfold fIsNot at q ⊢
  split at q <;> first | exact h _ _ q | exact q
/-- in a list, a tuple of data; a text in a text -/
def fIn (neg : Bool) : F2 := fun x y S Q => match y with
  | .lst ds => okD x ∧ okD (.lst ds) ∧ Q (.bl (xor neg (ds.any fun z => eqD z x))) S
  | .tup ds => okD x ∧ okD (.tup ds) ∧ Q (.bl (xor neg (ds.any fun z => eqD z x))) S
  | .str j => match x with
    | .str i => Q (.bl (xor neg (!(Builtin.Str.occurrences j i 0 j.length 1).isEmpty))) S
    | _ => False
  | _ => False
theorem moIn (neg : Bool) : MoF2 (fIn neg) := fun x y S Q Q' h q => by
  unfold fIn at q ⊢
  cases y <;> first
    | exact ⟨q.1, q.2.1, h _ _ q.2.2⟩
    | (cases x <;> first | exact h _ _ q | exact q)
    | exact q
section
variable {X : Cx}
theorem opD_eq {k : Nat} (hr : Room k X.A) : OpD X (compareOp .Eq) fEq := by
  refine ⟨moEq, fun pins s σ H x y v u Q Z S dx dy I rx ry rs r1 r2 h => ?_⟩
  exact op_eqD hr.units pins s σ H _ _ v u Q I rx ry ⟨_, _, Rp.dp _ _ h.1.1 r1, Rp.dp _ _ h.2.1.1 r2, h.1.2, h.2.1.2, h.2.2 _ H (.refl rs) (.bl _)⟩
theorem opD_ne {k : Nat} (hr : Room k X.A) : OpD X (compareOp .NotEq) fNe := by
  refine ⟨moNe, fun pins s σ H x y v u Q Z S dx dy I rx ry rs r1 r2 h => ?_⟩
  exact op_neD hr.units pins s σ H _ _ v u Q I rx ry ⟨_, _, Rp.dp _ _ h.1.1 r1, Rp.dp _ _ h.2.1.1 r2, h.1.2, h.2.1.2, h.2.2 _ H (.refl rs) (.bl _)⟩
theorem isN_of {K : Kz} {S : Sto} {H : Hp} {d : D} {v : V} (r : Rp K S H d v) : decide (v = .non) = isN d := by
  cases r <;> rfl
theorem opD_isNot : OpD X (compareOp .IsNot) fIsNot := by
  refine ⟨moIsNot, fun pins s σ H x y v u Q Z S dx dy I rx ry rs r1 r2 h => ?_⟩
  cases r2 <;> first | exact h.elim | skip
  exact op_notN pins s σ H _ _ v u Q I rx ry ⟨rfl, by rw [isN_of r1]; exact h _ H (.refl rs) (.bl _)⟩
end

/-! ### -a -/
def dNeg (t : TEd) : TEd := fun env S Q E => t env S (fun d S' => match d with | .int i => Q (.int (-i)) S' | _ => False) E
theorem moNeg {t : TEd} (h : MoE t) : MoE (dNeg t) := fun env S Q Q' E E' hq he q => h _ _ _ _ _ _ (fun d S1 q1 => by
  cases d <;> first | exact hq _ _ q1 | exact q1) he q
section
variable {X : Cx} {W : WX} {a b c : Expr} {ta tb tc : TEd} {pos : Pos}
theorem je_neg (ha : JE X W a ta) : JE X W (.UnaryOp .USub a pos) (dNeg ta) := by
  refine ⟨PE.imp (pe_un un_neg ha.pe) fun σ H Q h => ?_, moNeg ha.mo⟩
  obtain ⟨Z, env, S, re, rs, q⟩ := h
  refine LE.of ha.mo re rs q (fun d S1 x H1 q1 a1 r1 => ?_) fun x S1 c dx H1 q1 a1 r1 => q1 c dx H1 a1 r1
  cases d <;> first | exact q1.elim | skip
  cases r1
  exact ⟨_, rfl, q1 _ H1 a1 (.int _)⟩
/-- a op b op c, the two answers truths -/
def dChain (ta tb tc : TEd) (f g : F2) : TEd := fun env S Q E => ta env S (fun x S1 => tb env S1 (fun y S2 => f x y S2 (fun d S3 => match d with
  | .bl true => tc env S3 (fun z S4 => g y z S4 Q) E
  | .bl false => Q (.bl false) S3
  | _ => False)) E) E
theorem moChain {f g : F2} (ha : MoE ta) (hb : MoE tb) (hc : MoE tc) (hf : MoF2 f) (hg : MoF2 g) : MoE (dChain ta tb tc f g) := fun env S Q Q' E E' h he q =>
  ha _ _ _ _ _ _ (fun x S1 q1 => hb _ _ _ _ _ _ (fun y S2 q2 => hf _ _ _ _ _ (fun d S3 q3 => by
    cases d <;> first | exact q3 | skip
    rename_i b
    cases b
    · exact h _ _ q3
    · exact hc _ _ _ _ _ _ (fun z S4 q4 => hg _ _ _ _ _ h q4) he q3) q2) he q1) he q
/-- OpD's answer, as a relation of the layer's -/
def rD (K : PySem.W.Frag) (f : F2) : R2 := fun x y H Q => ∃ Z S dx dy, RS ⟨K, Z⟩ S H ∧ Rp ⟨K, Z⟩ S H dx x ∧ Rp ⟨K, Z⟩ S H dy y ∧ f dx dy S (PQ ⟨K, Z⟩ S H Q)
theorem OpD.op {g : Value → Value → Sem Value} {f : F2} (h : OpD X g f) : OpR X g (rD X.K f) := fun pins s σ H x y v u Q I rx ry ⟨Z, S, dx, dy, rs, r1, r2, q⟩ => h.run pins s σ H x y v u Q Z S dx dy I rx ry rs r1 r2 q
theorem chainV {op op' : CmpOp} {f g : F2} (ho : OpD X (compareOp op) f) (ho' : OpD X (compareOp op') g) (ha : JE X W a ta) (hb : JE X W b tb) (hc : JE X W c tc) {σ : L2.St} {H : Hp} {Q : VK} (h : LE X.K W (dChain ta tb tc f g) σ H Q) :
    tChain (rD X.K f) (rD X.K g) (LE X.K W ta) (LE X.K W tb) (LE X.K W tc) σ H Q := by
  obtain ⟨Z, env, S, re, rs, q⟩ := h
  refine LE.of ha.mo re rs q (fun dx S1 x H1 q1 a1 r1 => ?_) fun x S1 c dx H1 q1 a1 r1 => q1 c dx H1 a1 r1
  refine LE.of hb.mo (re.step a1.st rs) a1.rs q1 (fun dy S2 y H2 q2 a2 r2 => ?_) fun x S2 c dx H2 q2 a2 r2 => q2 c dx H2 (a1.trans a2) r2
  refine ⟨Z, S2, dx, dy, a2.rs, Rp.step a2.st a1.rs _ _ r1, r2, ho.mo _ _ _ _ _ (fun d S3 q3 => ?_) q2⟩
  intro z H3 a3 r3
  have a13 := (a1.trans a2).trans a3
  cases d <;> first | exact q3.elim | skip
  rename_i t
  cases r3
  refine ⟨t, rfl, ?_⟩
  cases t with
  | false => exact iteF (q3 _ H3 a13 (.bl _))
  | true =>
    refine iteT (LE.of hc.mo (re.step a13.st rs) a3.rs q3 (fun dz S4 z H4 q4 a4 r4 => ?_) fun x S4 c dx H4 q4 a4 r4 => q4 c dx H4 (a13.trans a4) r4)
    exact ⟨Z, S4, dy, dz, a4.rs, Rp.step a4.st a3.rs _ _ (Rp.step a3.st a2.rs _ _ r2), r4, ho'.mo _ _ _ _ _ (fun d S5 q5 => PQ.after (a13.trans a4) q5) q4⟩
theorem je_chain {op op' : CmpOp} {f g : F2} (ho : OpD X (compareOp op) f) (ho' : OpD X (compareOp op') g) (ha : JE X W a ta) (hb : JE X W b tb) (hc : JE X W c tc)
    (hm : lastMarks [op, op'] [b, c] = false := by rfl) : JE X W (.Compare a [op, op'] [b, c] pos) (dChain ta tb tc f g) :=
  ⟨PE.imp (pe_chain ho.op ho'.op ha.pe hb.pe hc.pe hm) fun σ H Q h => chainV ho ho' ha hb hc h, moChain ha.mo hb.mo hc.mo ho.mo ho'.mo⟩
end

/-! ### argument lists, displays -/
def aNil : TAd := fun _ S Q _ => Q [] S
def aCons (t : TEd) (u : TAd) : TAd := fun env S Q E => t env S (fun d S1 => u env S1 (fun ds S2 => Q (d :: ds) S2) E) E
def dTup (t : TAd) : TEd := fun env S Q E => t env S (fun ds S1 => ds.length ≤ sizeLine ∧ Q (.tup ds) S1) E
def dLst (t : TAd) : TEd := fun env S Q E => t env S (fun ds S1 => ds.length ≤ sizeLine ∧ Q (.lst ds) S1) E
def dLstR (t : TAd) : TEd := fun env S Q E => t env S (fun ds S1 => ds.length ≤ sizeLine ∧ ∀ a, S1 a = none → Q (.ref a) (sup S1 a ds)) E
theorem moNilA : MoE aNil := fun env S Q Q' E E' h he q => h _ _ q
theorem moConsA {t : TEd} {u : TAd} (ht : MoE t) (hu : MoE u) : MoE (aCons t u) := fun env S Q Q' E E' h he q =>
  ht _ _ _ _ _ _ (fun d S1 q1 => hu _ _ _ _ _ _ (fun ds S2 q2 => h _ _ q2) he q1) he q
theorem moTup {t : TAd} (ht : MoE t) : MoE (dTup t) := fun env S Q Q' E E' h he q => ht _ _ _ _ _ _ (fun ds S1 q1 => ⟨q1.1, h _ _ q1.2⟩) he q
theorem moLst {t : TAd} (ht : MoE t) : MoE (dLst t) := fun env S Q Q' E E' h he q => ht _ _ _ _ _ _ (fun ds S1 q1 => ⟨q1.1, h _ _ q1.2⟩) he q
theorem moLstR {t : TAd} (ht : MoE t) : MoE (dLstR t) := fun env S Q Q' E E' h he q => ht _ _ _ _ _ _ (fun ds S1 q1 => ⟨q1.1, fun a n => h _ _ (q1.2 a n)⟩) he q
section
variable {X : Cx} {W : WX} {e : Expr} {es : List Expr} {t : TEd} {u : TAd} {pos : Pos}
theorem LA.cons {K : PySem.W.Frag} {t : TEd} {u : TAd} (ht : MoE t) (hu : MoE u) {σ : L2.St} {H : Hp} {Q : List V → Hp → Prop} (h : LA K W (aCons t u) σ H Q) : LE K W t σ H fun x H1 => LA K W u σ H1 fun xs H2 => Q (x :: xs) H2 := by
  obtain ⟨Z, env, S, re, rs, q⟩ := h
  refine LE.of ht re rs q (fun d S1 x H1 q1 a1 r1 => ?_) fun x S1 c dx H1 q1 a1 r1 => q1 c dx H1 a1 r1
  exact LA.of hu (re.step a1.st rs) a1.rs q1 (fun ds S2 vs H2 q2 a2 r2 => q2 _ H2 (a1.trans a2) (.cons (Rp.step a2.st a1.rs _ _ r1) r2)) fun x S2 c dx H2 q2 a2 r2 => q2 c dx H2 (a1.trans a2) r2
theorem ja_nil : JA X W [] aNil := ⟨PA.imp pa_nil fun σ H Q h => by
  obtain ⟨Z, env, S, re, rs, q⟩ := h
  exact q [] H (.refl rs) .nil, moNilA⟩
theorem ja_cons (ha : JE X W e t) (hr : JA X W es u) (hs : starEach (e :: es) X.env = (false, eval e X.env) :: starEach es X.env := by rfl) : JA X W (e :: es) (aCons t u) :=
  ⟨PA.imp (pa_cons ha.pe hr.pa hs) fun σ H Q h => LA.cons ha.mo hr.mo h, moConsA ha.mo hr.mo⟩
theorem je_tup {x1 : Nat} (h : JA X W es u) : JE X W (.Tuple es x1 pos) (dTup u) := by
  refine ⟨PE.imp (pe_tup h.pa) fun σ H Q q => ?_, moTup h.mo⟩
  obtain ⟨Z, env, S, re, rs, q⟩ := q
  refine LA.of h.mo re rs q (fun ds S1 vs H1 q1 a1 r1 => ⟨by rw [← r1.length]; exact q1.1, fun p hp => ?_⟩) fun x S1 c dx H1 q1 a1 r1 => q1 c dx H1 a1 r1
  obtain ⟨a2, r2⟩ := Rp.newT a1.rs hp r1
  exact q1.2 _ _ (a1.trans a2) r2
theorem je_lst (h : JA X W es u) : JE X W (.List es pos) (dLst u) := by
  refine ⟨PE.imp (pe_lst h.pa) fun σ H Q q => ?_, moLst h.mo⟩
  obtain ⟨Z, env, S, re, rs, q⟩ := q
  refine LA.of h.mo re rs q (fun ds S1 vs H1 q1 a1 r1 => ⟨by rw [← r1.length]; exact q1.1, fun p hp => ?_⟩) fun x S1 c dx H1 q1 a1 r1 => q1 c dx H1 a1 r1
  obtain ⟨a2, r2⟩ := Rp.newL a1.rs hp r1
  exact q1.2 _ _ (a1.trans a2) r2
/-- a list that is to be grown -/
theorem je_lstR (h : JA X W es u) : JE X W (.List es pos) (dLstR u) := by
  refine ⟨PE.imp (pe_lst h.pa) fun σ H Q q => ?_, moLstR h.mo⟩
  obtain ⟨Z, env, S, re, rs, q⟩ := q
  refine LA.of h.mo re rs q (fun ds S1 vs H1 q1 a1 r1 => ⟨by rw [← r1.length]; exact q1.1, fun p hp => ?_⟩) fun x S1 c dx H1 q1 a1 r1 => q1 c dx H1 a1 r1
  exact q1.2 p (a1.rs.free hp) _ _ (a1.trans (Rp.newR a1.rs hp r1)) (.ref p)
end

/-! ### subscripts -/
def fIx : F2 := fun x y S Q => match y with
  | .int i => match x with
    | .tup ds => match atI ds i with | some d => Q d S | none => False
    | .lst ds => match atI ds i with | some d => Q d S | none => False
    | .ref a => match S a with
      | some ds => match atI ds i with | some d => Q d S | none => False
      | none => False
    | .str z => z.length ≤ sizeLine ∧ match atI z.cps.toList i with | some c => Q (.str ⟨#[c]⟩) S | none => False
    | _ => False
  | _ => False
theorem moIx : MoF2 fIx := fun x y S Q Q' h q => by
  unfold fIx at q ⊢
  cases y <;> first | exact q | skip
  cases x <;> first | exact q | skip
  · dsimp only at q ⊢; refine ⟨q.1, ?_⟩; have q2 := q.2; split at q2 <;> first | exact h _ _ q2 | exact q2
  · dsimp only at q ⊢; split at q <;> first | exact h _ _ q | exact q
  · dsimp only at q ⊢; split at q <;> first | exact h _ _ q | exact q
  · dsimp only at q ⊢
    split at q
    · split at q <;> first | exact h _ _ q | exact q
    · exact q
theorem atI_rp {K : Kz} {S : Sto} {H : Hp} {ds : List D} {vs : List V} {i : Int} {d : D} (r : RpL K S H ds vs) (e : atI ds i = some d) : ∃ v, atI vs i = some v ∧ Rp K S H d v := by
  unfold atI at e ⊢
  rw [← r.length]
  cases h : ixN ds.length i with
  | none => rw [h] at e; cases e
  | some j =>
    rw [h] at e
    exact r.get e
section
variable {X : Cx} {W : WX} {a b : Expr} {ta tb : TEd} {pos : Pos}
theorem ixD : IxR X (rD X.K fIx) := by
  intro value slice pins s σ H x y v u Q I rx ry h hs
  obtain ⟨Z, S, dx, dy, rs, r1, r2, q⟩ := h
  cases r2 <;> first | (unfold fIx at q; exact q.elim) | skip
  rename_i i
  cases r1 with
  | tup hq ha =>
    unfold fIx at q; dsimp only at q
    split at q <;> first | exact q.elim | skip
    rename_i d e
    obtain ⟨z, e2, r⟩ := atI_rp ha e
    exact ix_tup value slice pins s σ H _ _ v u Q I rx ry ⟨_, _, _, z, rfl, rfl, hq, e2, q z H (.refl rs) r⟩ hs
  | lst hq hn hz ha =>
    unfold fIx at q; dsimp only at q
    split at q <;> first | exact q.elim | skip
    rename_i d e
    obtain ⟨z, e2, r⟩ := atI_rp ha e
    exact ix_list value slice pins s σ H _ _ v u Q I rx ry ⟨_, _, _, z, rfl, rfl, .inl hq, e2, q z H (.refl rs) r⟩ hs
  | lstK hq ha =>
    unfold fIx at q; dsimp only at q
    split at q <;> first | exact q.elim | skip
    rename_i d e
    obtain ⟨z, e2, r⟩ := atI_rp ha e
    exact ix_list value slice pins s σ H _ _ v u Q I rx ry ⟨_, _, _, z, rfl, rfl, SqL.ofK hq, e2, q z H (.refl rs) r⟩ hs
  | ref a =>
    unfold fIx at q; dsimp only at q
    split at q <;> first | exact q.elim | skip
    rename_i ds e0
    split at q <;> first | exact q.elim | skip
    rename_i d e
    obtain ⟨vs, hl, ha⟩ := rs.at_ a ds e0
    obtain ⟨z, e2, r⟩ := atI_rp ha e
    exact ix_list value slice pins s σ H _ _ v u Q I rx ry ⟨_, _, _, z, rfl, rfl, SqL.of hl, e2, q z H (.refl rs) r⟩ hs
  | str z =>
    unfold fIx at q; dsimp only at q
    obtain ⟨hz, q⟩ := q
    split at q <;> first | exact q.elim | skip
    rename_i c e
    exact ix_str value slice pins s σ H _ _ v u Q I rx ry ⟨z, i, c, rfl, rfl, hz, e, q _ H (.refl rs) (.str _)⟩ hs
  | _ => unfold fIx at q; exact q.elim
theorem je_ix (ha : JE X W a ta) (hb : JE X W b tb) (hs : PlainIx b := by exact fun _ _ => rfl) : JE X W (.Subscript a b pos) (dTwo ta tb fIx) :=
  ⟨PE.imp (pe_ix ixD ha.pe hb.pe hs) fun σ H Q h => two ha.mo hb.mo moIx h, moTwo ha.mo hb.mo moIx⟩
end

/-! ### slices -/
abbrev TOd := TX (Option Int)
def oNone : TOd := fun _ S Q _ => Q none S
def oSome (t : TEd) : TOd := fun env S Q E => t env S (fun d S1 => match d with | .int i => Q (some i) S1 | _ => False) E
theorem moONone : MoE oNone := fun env S Q Q' E E' h he q => h _ _ q
theorem moOSome {t : TEd} (ht : MoE t) : MoE (oSome t) := fun env S Q Q' E E' h he q => ht _ _ _ _ _ _ (fun d S1 q1 => by
  cases d <;> first | exact h _ _ q1 | exact q1) he q
def LO (K : PySem.W.Frag) (W : WX) (t : TOd) : TO := fun σ H Q => ∃ Z env S, RE ⟨K, Z⟩ S H env σ ∧ RS ⟨K, Z⟩ S H ∧ t env S (fun b S' => ∀ H', Aft ⟨K, Z⟩ S H S' H' → Q b H') (PX ⟨K, Z⟩ S H σ W)
theorem LO.of {K : Kz} {W : WX} {S : Sto} {H : Hp} {env : Ev} {σ : L2.St} {t : TOd} (mo : MoE t) (re : RE K S H env σ) (rs : RS K S H) {C : Option Int → Sto → Prop} {E : EK} {R : Option Int → Hp → Prop} (h : t env S C E)
    (hc : ∀ d S1 H1, C d S1 → Aft K S H S1 H1 → R d H1) (he : ∀ x S1 c dx H1, E x S1 → Aft K S H S1 H1 → RX K S1 H1 x c dx → W c dx σ H1) : LO K.K W t σ H R :=
  ⟨K.Z, env, S, re, rs, mo _ _ _ _ _ _ (fun d S1 q H1 a => hc d S1 H1 q a) (fun x S1 q c dx H1 a r => he x S1 c dx H1 q a r) h⟩
structure JO (X : Cx) (W : WX) (e : Option Expr) (t : TOd) : Prop where
  po : PO X e (LO X.K W t)
  mo : MoE t
def cutD (ds : List D) (lo hi : Option Int) : List D := (ds.drop (HT.sIx ds.length 0 lo)).take (HT.sIx ds.length ds.length hi - HT.sIx ds.length 0 lo)
def fSl (x : D) (lo hi : Option Int) (S : Sto) (Q : DK) : Prop := match x with
  | .tup ds => Q (.tup (cutD ds lo hi)) S
  | .lst ds => Q (.lst (cutD ds lo hi)) S
  | .ref a => match S a with
    | some ds => Q (.lst (cutD ds lo hi)) S
    | none => False
  | .str z => z.length ≤ sizeLine ∧ Q (.str (cutS z lo hi)) S
  | _ => False
theorem moFSl {x : D} {lo hi : Option Int} {S : Sto} {Q Q' : DK} (h : ∀ d S, Q d S → Q' d S) (q : fSl x lo hi S Q) : fSl x lo hi S Q' := by
  unfold fSl at q ⊢
  cases x <;> first
    | exact h _ _ q
    | exact ⟨q.1, h _ _ q.2⟩
    | (dsimp only at q ⊢; split at q <;> first | exact h _ _ q | exact q)
    | exact q
def dSl (t : TEd) (lo hi : TOd) : TEd := fun env S Q E => t env S (fun x S1 => lo env S1 (fun l S2 => hi env S2 (fun u S3 => fSl x l u S3 Q) E) E) E
theorem moSl {t : TEd} {lo hi : TOd} (ht : MoE t) (hl : MoE lo) (hh : MoE hi) : MoE (dSl t lo hi) := fun env S Q Q' E E' h he q =>
  ht _ _ _ _ _ _ (fun x S1 q1 => hl _ _ _ _ _ _ (fun l S2 q2 => hh _ _ _ _ _ _ (fun u S3 q3 => moFSl h q3) he q2) he q1) he q
theorem cut_rp {K : Kz} {S : Sto} {H : Hp} {ds : List D} {vs : List V} {lo hi : Option Int} (r : RpL K S H ds vs) : RpL K S H (cutD ds lo hi) (cutV vs lo hi) := by
  unfold cutD cutV
  rw [r.length]
  exact (r.drop _).take _
theorem cutV_all {vs : List V} {lo hi : Option Int} (h : HT.sIx vs.length 0 lo = 0 ∧ HT.sIx vs.length vs.length hi = vs.length) : cutV vs lo hi = vs := by
  unfold cutV
  rw [h.1, h.2]
  simp
section
variable {X : Cx} {W : WX} {e : Expr} {t : TEd} {lo hi : Option Expr} {tl th : TOd} {pos p2 : Pos}
theorem jo_none : JO X W none oNone := ⟨⟨fun pins s σ H Q I h => by
  obtain ⟨Z, env, S, re, rs, q⟩ := h
  exact po_none.run pins s σ H Q I (q H (.refl rs))⟩, moONone⟩
theorem jo_some (h : JE X W e t) : JO X W (some e) (oSome t) := ⟨⟨fun pins s σ H Q I h2 => by
  obtain ⟨Z, env, S, re, rs, q⟩ := h2
  refine (po_some h.pe).run pins s σ H Q I (LE.of h.mo re rs q (fun d S1 x H1 q1 a1 r1 => ?_) fun x S1 c dx H1 q1 a1 r1 => q1 c dx H1 a1 r1)
  cases d <;> first | exact q1.elim | skip
  cases r1
  exact ⟨_, rfl, q1 H1 a1⟩⟩, moOSome h.mo⟩
def rSlD (K : PySem.W.Frag) : V → Option Int → Option Int → Hp → VK → Prop := fun x lo hi H Q => ∃ Z S d, RS ⟨K, Z⟩ S H ∧ Rp ⟨K, Z⟩ S H d x ∧ fSl d lo hi S (PQ ⟨K, Z⟩ S H Q)
theorem slD : SlR X (rSlD X.K) := by
  intro pins s σ H x v vl vu lo hi sl Q I rx hs pl pu h
  obtain ⟨Z, S, d, rs, r, q⟩ := h
  cases r with
  | tup hq ha =>
    refine sl_tupA pins s σ H _ v vl vu lo hi sl Q I rx hs pl pu ⟨_, _, rfl, hq, fun e => ?_, fun _ p hp => ?_⟩
    · have z := q (.ref _) H (.refl rs) (.tup hq (by rw [← cutV_all e]; exact cut_rp ha))
      exact z
    · obtain ⟨a2, r2⟩ := Rp.newT rs hp (cut_rp (lo := lo) (hi := hi) ha)
      exact q _ _ a2 r2
  | lst hq hn hz ha => exact sl_list pins s σ H _ v vl vu lo hi sl Q I rx hs pl pu ⟨_, _, rfl, .inl hq, fun p hp => by
      obtain ⟨a2, r2⟩ := Rp.newL rs hp (cut_rp (lo := lo) (hi := hi) ha)
      exact q _ _ a2 r2⟩
  | lstK hq ha => exact sl_list pins s σ H _ v vl vu lo hi sl Q I rx hs pl pu ⟨_, _, rfl, SqL.ofK hq, fun p hp => by
      obtain ⟨a2, r2⟩ := Rp.newL rs hp (cut_rp (lo := lo) (hi := hi) ha)
      exact q _ _ a2 r2⟩
  | ref a =>
    unfold fSl at q; dsimp only at q
    split at q <;> first | exact q.elim | skip
    rename_i ds e0
    obtain ⟨vs, hl, ha⟩ := rs.at_ a ds e0
    exact sl_list pins s σ H _ v vl vu lo hi sl Q I rx hs pl pu ⟨_, _, rfl, SqL.of hl, fun p hp => by
      obtain ⟨a2, r2⟩ := Rp.newL rs hp (cut_rp (lo := lo) (hi := hi) ha)
      exact q _ _ a2 r2⟩
  | str z => exact sl_str pins s σ H _ v vl vu lo hi sl Q I rx hs pl pu ⟨_, rfl, q.1, q.2 _ H (.refl rs) (.str _)⟩
  | _ => exact q.elim
theorem je_sl (ha : JE X W e t) (hl : JO X W lo tl) (hh : JO X W hi th) : JE X W (.Subscript e (.Slice lo hi none p2) pos) (dSl t tl th) := by
  refine ⟨PE.imp (pe_slice slD ha.pe hl.po hh.po) fun σ H Q h => ?_, moSl ha.mo hl.mo hh.mo⟩
  obtain ⟨Z, env, S, re, rs, q⟩ := h
  refine LE.of ha.mo re rs q (fun d S1 x H1 q1 a1 r1 => ?_) fun x S1 c dx H1 q1 a1 r1 => q1 c dx H1 a1 r1
  refine LO.of hl.mo (re.step a1.st rs) a1.rs q1 (fun l S2 H2 q2 a2 => ?_) fun x S2 c dx H2 q2 a2 r2 => q2 c dx H2 (a1.trans a2) r2
  have a12 := a1.trans a2
  refine LO.of hh.mo (re.step a12.st rs) a2.rs q2 (fun u S3 H3 q3 a3 => ?_) fun x S3 c dx H3 q3 a3 r3 => q3 c dx H3 (a12.trans a3) r3
  exact ⟨Z, S3, d, a3.rs, Rp.step a3.st a2.rs _ _ (Rp.step a2.st a1.rs _ _ r1), moFSl (fun d S4 q4 => PQ.after (a12.trans a3) q4) q3⟩
end
end Bl

namespace Bl
open PySem PySem.Spec PyProof.Rows L2

/-! ### defs -/
/-- a def's promise, by data -/
def LSp (K : PySem.W.Frag) (n : Nat) (m : TFd) : Sp := fun vs H Q E => ∃ Z ds S, ds.length = n ∧ RpL ⟨K, Z⟩ S H ds vs ∧ RS ⟨K, Z⟩ S H ∧ m ds S (PQ ⟨K, Z⟩ S H Q) fun x S' => ∀ c dx H', Aft ⟨K, Z⟩ S H S' H' → RX ⟨K, Z⟩ S' H' x c dx → E c dx H'
/-- the def x, called by np places and the keywords ks; gD puts the values into the parameters' order -/
structure JF (P : Program) (w : World) (K : PySem.W.Frag) (mg : Str → Option Value) (base : Heap) (x : Str) (np : Nat) (ks : List Str) (gD : List D → List D → List D) (k : Nat) (m : TFd) : Prop where
  ex : ∃ (f : Addr) (fd : FuncData) (ps : List Str) (g : List Value → List Value → List Value) (gV : List V → List V → List V), mg x = some (.ref f) ∧ PySem.W.keepIn K (.ref f) = true ∧ FnOk P w K mg base (L2.CX P w) k f fd ps (LSp K ps.length m) ∧ KBn K fd ps np ks g gV ∧
    ∀ (Z : Addr → Prop) S H ds zs vs ws, RpL ⟨K, Z⟩ S H ds vs → RpL ⟨K, Z⟩ S H zs ws → ds.length = np → zs.length = ks.length → RpL ⟨K, Z⟩ S H (gD ds zs) (gV vs ws) ∧ (gD ds zs).length = ps.length
  mo : MoF m
/-- a call: the values by places, then those by keywords -/
def dCall (m : TFd) (np nk : Nat) (gD : List D → List D → List D) (ta tk : TAd) : TEd := fun env S Q E => ta env S (fun ds S1 => tk env S1 (fun zs S2 => ds.length = np ∧ zs.length = nk ∧ m (gD ds zs) S2 Q E) E) E
theorem moCall {m : TFd} {np nk : Nat} {gD : List D → List D → List D} {ta tk : TAd} (hm : MoF m) (ha : MoE ta) (hk : MoE tk) : MoE (dCall m np nk gD ta tk) := fun env S Q Q' E E' h he q =>
  ha _ _ _ _ _ _ (fun ds S1 q1 => hk _ _ _ _ _ _ (fun zs S2 q2 => ⟨q2.1, q2.2.1, hm _ _ _ _ _ _ h he q2.2.2⟩) he q1) he q
structure JK (X : Cx) (W : WX) (kws : List Keyword) (t : TAd) : Prop where
  pk : PK X kws (LA X.K W t)
  mo : MoE t
section
variable {X : Cx} {W : WX} {e : Expr} {es : List Expr} {t : TEd} {u : TAd} {pos kpos : Pos} {nm : Option Str} {kws : List Keyword}
theorem jk_nil : JK X W [] aNil := ⟨⟨fun pos pins s σ H Q I h => by
  obtain ⟨Z, env, S, re, rs, q⟩ := h
  exact pk_nil.run pos pins s σ H Q I (q [] H (.refl rs) .nil)⟩, moNilA⟩
theorem jk_cons (ha : JE X W e t) (hr : JK X W kws u) : JK X W (⟨nm, e, kpos⟩ :: kws) (aCons t u) :=
  ⟨⟨fun pos pins s σ H Q I h => (pk_cons ha.pe hr.pk).run pos pins s σ H Q I (LA.cons ha.mo hr.mo h)⟩, moConsA ha.mo hr.mo⟩
theorem run_fnG {k np : Nat} {f : Addr} {fd : FuncData} {ps ks : List Str} {sp : Sp} {E : XK} {g : List Value → List Value → List Value} {gV : List V → List V → List V} {pins : List (Addr × Obj)} {σ : L2.St} {H : Hp} {s : Shared} {Q : VK} {us ws : List Value} {vs zs : List V}
    (F : FnOk X.prog X.w X.K X.mg X.base (L2.CX X.prog X.w) k f fd ps sp) (hr : Room k X.A) (hb : KBn X.K fd ps np ks g gV) (hx : PassesAt (L2.CX X.prog X.w) X σ E)
    (I : Inv X pins σ H s) (r : Vals vs us) (rz : Vals zs ws) (l1 : vs.length = np) (l2 : zs.length = ks.length) (h : sp (gV vs zs) H Q E) : wpAny (model X.prog X.w) X.A (call (.ref f) us (ks.zip ws)) (EP X pins σ Q) X.xe s := by
  refine wpAny_call (codeAny_mono (F.run X.A X.stack s H ⟨us, ks.zip ws⟩ (g us ws) (gV vs zs) Q E hr I.env0 (hb.to s us ws I.kIn (r.length.symm.trans l1) (rz.length.symm.trans l2)) (hb.rel r rz) h) fun r s' hq => ?_)
  cases r with
  | error e => exact hx pins H s e s' I hq
  | ok fl =>
    cases fl with
    | ret u => exact I.after hq
    | next => exact False.elim hq
    | brk => exact False.elim hq
    | cont => exact False.elim hq
variable {P : Program} {w : World} {K : PySem.W.Frag} {mg : Str → Option Value} {base : Heap} {N : List Str} {sc : Scope} {vw : Vw} {k j : Nat} {x : Str} {np : Nat} {ks : List Str} {gD : List D → List D → List D} {m : TFd} {tk : TAd} {p : Pos}
/-- the callee's promise from the arguments -/
theorem call_sp {K : PySem.W.Frag} {Z : Addr → Prop} {S S2 : Sto} {H H2 : Hp} {σ : L2.St} {Q : VK} {n : Nat} {ds : List D} {vs : List V} (hm : MoF m) (a2 : Aft ⟨K, Z⟩ S H S2 H2) (r : RpL ⟨K, Z⟩ S2 H2 ds vs) (hl : ds.length = n) (h : m ds S2 (PQ ⟨K, Z⟩ S H Q) (PX ⟨K, Z⟩ S H σ W)) :
    LSp K n m vs H2 Q (WE W σ) :=
  ⟨Z, ds, S2, hl, r, a2.rs, hm _ _ _ _ _ _ (fun d S3 q => PQ.after a2 q) (fun x S3 q c dx H' a3 rx => q c dx H' (a2.trans a3) rx) h⟩
/-- f(e, .., k = v, ..) -/
theorem je_callK (c : JC P w K mg base N sc vw k X W) (F : JF P w K mg base x np ks gD j m) (hj : j ≤ k) (hx : x ∈ vw.gs) (ha : JA X W (e :: es) u) (hk : JK X W kws tk)
    (hall : (backToKw pos (keywordEach kws X.env)).all (·.1.isSome) = true := by rfl) (hks : (backToKw pos (keywordEach kws X.env)).filterMap (·.1) = ks := by rfl) (he : starEach (e :: es) X.env = (false, eval e X.env) :: starEach es X.env := by rfl)
    (hpl : ((backTo pos (starEach (e :: es) X.env)).any (·.1) || (backToKw pos (keywordEach kws X.env)).any (·.1.isNone)) = false := by rfl) :
    JE X W (.Call (.Name x p) (e :: es) kws pos) (dCall m np ks.length gD u tk) := by
  obtain ⟨rfl, rfl, rfl, rfl, rfl, rfl, rfl⟩ : X.prog = P ∧ X.w = w ∧ X.K = K ∧ X.mg = mg ∧ X.base = base ∧ X.N = N ∧ X.env.scope = sc := ⟨c.prog, c.ww, c.kk, c.gg, c.bb, c.nn, c.ss⟩
  obtain ⟨f, fd, ps, g, gV, hm, hkp, FF, hb, rel⟩ := F.ex
  refine ⟨⟨fun pins s σ H Q I h => ?_⟩, moCall F.mo ha.mo hk.mo⟩
  obtain ⟨Z, env, S, re, rs, q⟩ := h
  refine wpAny_Call_Name_kw (ld_glob I (c.gl hx) hm ?_ (c.sC.gl x hx).2.2)
  refine PySem.W.callWith_KW (h₀ := X.base) I.ok.mod.kin hkp hall (thn (ha.pa.run pos pins s σ H _ I (LA.of ha.mo re rs q (R := fun vs H1 => ∃ ds S1, Aft ⟨X.K, Z⟩ S H S1 H1 ∧ RpL ⟨X.K, Z⟩ S1 H1 ds vs ∧ tk env S1 _ _) (fun ds S1 vs H1 q1 a1 r1 => ⟨ds, S1, a1, r1, q1⟩) fun x S1 c dx H1 q1 a1 r1 => q1 c dx H1 a1 r1)) fun us s1 ⟨vs, H1, I1, r, ds, S1, a1, r1, q1⟩ => ?_) hpl he
  refine thn (hk.pk.run pos pins s1 σ H1 _ I1 (LA.of hk.mo (re.step a1.st rs) a1.rs q1 (R := fun ws H2 => ∃ zs S2, Aft ⟨X.K, Z⟩ S1 H1 S2 H2 ∧ RpL ⟨X.K, Z⟩ S2 H2 zs ws ∧ ds.length = np ∧ zs.length = ks.length ∧ m (gD ds zs) S2 _ _) (fun zs S2 ws H2 q2 a2 r2 => ⟨zs, S2, a2, r2, q2⟩) fun x S2 c dx H2 q2 a2 r2 => q2 c dx H2 (a1.trans a2) r2)) fun ws s2 ⟨zv, H2, I2, rz, zs, S2, a2, r2, l1, l2, q2⟩ => ⟨I2.kIn, ?_⟩
  rw [hks]
  have r1' := RpL.step a2.st a1.rs _ _ r1
  obtain ⟨rr, ll⟩ := rel Z S2 H2 ds zs vs zv r1' r2 l1 l2
  exact run_fnG FF (c.room.mono hj) hb (passAt c.tk σ) I2 r rz (by rw [← r1.length]; exact l1) (by rw [← r2.length]; exact l2) (call_sp F.mo (a1.trans a2) rr ll q2)
/-- f(e, ..) -/
theorem je_call (c : JC P w K mg base N sc vw k X W) (F : JF P w K mg base x np [] gD j m) (hj : j ≤ k) (hx : x ∈ vw.gs) (ha : JA X W (e :: es) u) (he : starEach (e :: es) X.env = (false, eval e X.env) :: starEach es X.env := by rfl)
    (hpl : (backTo pos (starEach es X.env)).any (·.1) = false := by rfl) : JE X W (.Call (.Name x p) (e :: es) [] pos) (dCall m np 0 gD u aNil) := by
  obtain ⟨rfl, rfl, rfl, rfl, rfl, rfl, rfl⟩ : X.prog = P ∧ X.w = w ∧ X.K = K ∧ X.mg = mg ∧ X.base = base ∧ X.N = N ∧ X.env.scope = sc := ⟨c.prog, c.ww, c.kk, c.gg, c.bb, c.nn, c.ss⟩
  obtain ⟨f, fd, ps, g, gV, hm, hkp, FF, hb, rel⟩ := F.ex
  refine ⟨⟨fun pins s σ H Q I h => ?_⟩, moCall F.mo ha.mo moNilA⟩
  obtain ⟨Z, env, S, re, rs, q⟩ := h
  refine wpAny_Call_Name_kw (ld_glob I (c.gl hx) hm ?_ (c.sC.gl x hx).2.2)
  refine PySem.W.callWith_K (h₀ := X.base) I.ok.mod.kin hkp (thn (ha.pa.run pos pins s σ H _ I (LA.of ha.mo re rs q (R := fun vs H1 => ∃ ds S1, Aft ⟨X.K, Z⟩ S H S1 H1 ∧ RpL ⟨X.K, Z⟩ S1 H1 ds vs ∧ ds.length = np ∧ ([] : List D).length = 0 ∧ m (gD ds []) S1 _ _) (fun ds S1 vs H1 q1 a1 r1 => ⟨ds, S1, a1, r1, q1⟩) fun x S1 c dx H1 q1 a1 r1 => q1 c dx H1 a1 r1)) fun us s1 ⟨vs, H1, I1, r, ds, S1, a1, r1, l1, l2, q1⟩ => ⟨I1.kIn, ?_⟩) he hpl
  obtain ⟨rr, ll⟩ := rel Z S1 H1 ds [] vs [] r1 .nil l1 rfl
  exact run_fnG (ws := []) (zs := []) FF (c.room.mono hj) hb (passAt c.tk σ) I1 r .nil (by rw [← r1.length]; exact l1) rfl (call_sp F.mo a1 rr ll q1)
end

/-! ### what is built in -/
abbrev GB := List D → Sto → DK → Prop
def rC (K : PySem.W.Frag) (g : GB) : List V → Hp → VK → Prop := fun vs H Q => ∃ Z S ds, RS ⟨K, Z⟩ S H ∧ RpL ⟨K, Z⟩ S H ds vs ∧ g ds S (PQ ⟨K, Z⟩ S H Q)
structure CallD (X : Cx) (f : Value) (g : GB) : Prop where
  mo : ∀ ds S (Q Q' : DK), (∀ d S, Q d S → Q' d S) → g ds S Q → g ds S Q'
  run : CallR X f (rC X.K g)
def dB (g : GB) (ta : TAd) : TEd := fun env S Q E => ta env S (fun ds S1 => g ds S1 Q) E
section
variable {X : Cx} {W : WX} {e : Expr} {es : List Expr} {t : TEd} {u : TAd} {pos p : Pos} {x : Str} {g : GB} {id T : String}
variable {P : Program} {w : World} {K : PySem.W.Frag} {mg : Str → Option Value} {base : Heap} {N : List Str} {sc : Scope} {vw : Vw} {k : Nat}
theorem dB_imp {K : PySem.W.Frag} {g : GB} (hg : ∀ ds S (Q Q' : DK), (∀ d S, Q d S → Q' d S) → g ds S Q → g ds S Q') (hu : MoE u) {σ : L2.St} {H : Hp} {Q : VK} (h : LE K W (dB g u) σ H Q) : tCB (rC K g) (LA K W u) σ H Q := by
  obtain ⟨Z, env, S, re, rs, q⟩ := h
  refine LA.of hu re rs q (fun ds S1 vs H1 q1 a1 r1 => ?_) fun x S1 c dx H1 q1 a1 r1 => q1 c dx H1 a1 r1
  exact ⟨Z, S1, ds, a1.rs, r1, hg _ _ _ _ (fun d S2 q2 => PQ.after a1 q2) q1⟩
theorem moB {g : GB} (hg : ∀ ds S (Q Q' : DK), (∀ d S, Q d S → Q' d S) → g ds S Q → g ds S Q') (hu : MoE u) : MoE (dB g u) := fun env S Q Q' E E' h he q => hu _ _ _ _ _ _ (fun ds S1 q1 => hg _ _ _ _ h q1) he q
theorem je_callB (c : JC P w K mg base N sc vw k X W) (hc : CallD X (.builtin id) g) (hx : x ∈ vw.gs) (hm : mg x = none) (hv : bootBuiltins x = some (.builtin id)) (ha : JA X W (e :: es) u) (he : starEach (e :: es) X.env = (false, eval e X.env) :: starEach es X.env := by rfl)
    (hpl : (backTo pos (starEach es X.env)).any (·.1) = false := by rfl) : JE X W (.Call (.Name x p) (e :: es) [] pos) (dB g u) :=
  ⟨PE.imp (pe_callB hc.run (c.gl hx) (by rw [c.gg]; exact hm) hv ha.pa (c.sC.gl x hx).2.1 (c.sC.gl x hx).2.2 he hpl) fun σ H Q h => dB_imp hc.mo ha.mo h, moB hc.mo ha.mo⟩
theorem je_callTy (c : JC P w K mg base N sc vw k X W) (hc : CallD X (.type T) g) (hx : x ∈ vw.gs) (hm : mg x = none) (hv : bootBuiltins x = some (.type T)) (ha : JA X W (e :: es) u) (he : starEach (e :: es) X.env = (false, eval e X.env) :: starEach es X.env := by rfl)
    (hpl : (backTo pos (starEach es X.env)).any (·.1) = false := by rfl) : JE X W (.Call (.Name x p) (e :: es) [] pos) (dB g u) :=
  ⟨PE.imp (pe_callTy hc.run (c.gl hx) (by rw [c.gg]; exact hm) hv ha.pa (c.sC.gl x hx).2.1 (c.sC.gl x hx).2.2 he hpl) fun σ H Q h => dB_imp hc.mo ha.mo h, moB hc.mo ha.mo⟩
end
def bAbs : GB := fun ds S Q => match ds with
  | [.int i] => Q (.int (if i < 0 then -i else i)) S
  | _ => False
def bLen : GB := fun ds S Q => match ds with
  | [.tup xs] => Q (.int xs.length) S
  | [.lst xs] => Q (.int xs.length) S
  | [.ref a] => match S a with | some xs => Q (.int xs.length) S | none => False
  | [.str x] => x.length ≤ sizeLine ∧ Q (.int x.length) S
  | _ => False
def bMax : GB := fun ds S Q => match ds with
  | [.int i, .int j] => Q (.int (if j > i then j else i)) S
  | _ => False
def bMin : GB := fun ds S Q => match ds with
  | [.int i, .int j] => Q (.int (if j < i then j else i)) S
  | _ => False
def bInt : GB := fun ds S Q => match ds with
  | [.int i] => Q (.int i) S
  | [.bl b] => Q (.int (if b then 1 else 0)) S
  | _ => False
def bTup : GB := fun ds S Q => match ds with
  | [.tup xs] => Q (.tup xs) S
  | [.lst xs] => Q (.tup xs) S
  | [.ref a] => match S a with | some xs => Q (.tup xs) S | none => False
  | _ => False
def bLst : GB := fun ds S Q => match ds with
  | [.tup xs] => Q (.lst xs) S
  | [.lst xs] => Q (.lst xs) S
  | [.ref a] => match S a with | some xs => Q (.lst xs) S | none => False
  | _ => False
def blsOf : List D → Option (List Bool)
  | [] => some []
  | .bl b :: ds => (blsOf ds).map (b :: ·)
  | _ => none
def bAll : GB := fun ds S Q => match ds with
  | [.lst xs] => match blsOf xs with | some bs => Q (.bl (bs.all id)) S | none => False
  | _ => False
section
variable {X : Cx}
theorem RpL.one {K : Kz} {S : Sto} {H : Hp} {d : D} {vs : List V} (h : RpL K S H [d] vs) : ∃ v, vs = [v] ∧ Rp K S H d v := by
  cases h with
  | cons a b => cases b; exact ⟨_, rfl, a⟩
theorem RpL.two {K : Kz} {S : Sto} {H : Hp} {d e : D} {vs : List V} (h : RpL K S H [d, e] vs) : ∃ v w, vs = [v, w] ∧ Rp K S H d v ∧ Rp K S H e w := by
  cases h with
  | cons a b =>
    cases b with
    | cons b c => cases c; exact ⟨_, _, rfl, a, b⟩
/-- a datum that is a list -/
theorem Rp.sqL {K : Kz} {S : Sto} {H : Hp} {xs : List D} {v : V} (h : Rp K S H (.lst xs) v) : ∃ a vs, v = .ref a ∧ SqL K.K H a vs ∧ RpL K S H xs vs := by
  cases h with
  | lst h1 h2 h3 h4 => exact ⟨_, _, rfl, .inl h1, h4⟩
  | lstK h1 h2 => exact ⟨_, _, rfl, SqL.ofK h1, h2⟩
theorem Rp.sqT {K : Kz} {S : Sto} {H : Hp} {xs : List D} {v : V} (h : Rp K S H (.tup xs) v) : ∃ a vs, v = .ref a ∧ SqT K.K H a vs ∧ RpL K S H xs vs := by
  cases h with
  | tup h1 h2 => exact ⟨_, _, rfl, h1, h2⟩
theorem Rp.sqR {K : Kz} {S : Sto} {H : Hp} {a : Addr} {xs : List D} (rs : RS K S H) (e : S a = some xs) : ∃ vs, SqL K.K H a vs ∧ RpL K S H xs vs := by
  obtain ⟨vs, h1, h2⟩ := rs.at_ a xs e
  exact ⟨vs, SqL.of h1, h2⟩
theorem cd_abs : CallD X (.builtin "abs") bAbs := by
  refine ⟨by (intro ds S Q Q' h q; unfold bAbs at q ⊢; split at q <;> first | exact h _ _ q | exact ⟨q.1, h _ _ q.2⟩ | exact q.elim | ((try dsimp only at q ⊢); split at q <;> first | exact h _ _ q | exact q.elim)), fun pins s σ H xs us Q I rv h => ?_⟩
  obtain ⟨Z, S, ds, rs, r, q⟩ := h
  unfold bAbs at q
  split at q <;> first | exact q.elim | skip
  obtain ⟨v, rfl, r1⟩ := r.one
  cases r1
  exact call_abs pins s σ H _ us Q I rv ⟨_, rfl, q _ H (.refl rs) (.int _)⟩
theorem cd_max (hc : X.calm = true) : CallD X (.builtin "max") bMax := by
  refine ⟨by (intro ds S Q Q' h q; unfold bMax at q ⊢; split at q <;> first | exact h _ _ q | exact ⟨q.1, h _ _ q.2⟩ | exact q.elim | ((try dsimp only at q ⊢); split at q <;> first | exact h _ _ q | exact q.elim)), fun pins s σ H xs us Q I rv h => ?_⟩
  obtain ⟨Z, S, ds, rs, r, q⟩ := h
  unfold bMax at q
  split at q <;> first | exact q.elim | skip
  obtain ⟨v, v2, rfl, r1, r2⟩ := r.two
  cases r1
  cases r2
  exact call_max2 hc pins s σ H _ us Q I rv ⟨_, _, rfl, q _ H (.refl rs) (.int _)⟩
theorem cd_min (hc : X.calm = true) : CallD X (.builtin "min") bMin := by
  refine ⟨by (intro ds S Q Q' h q; unfold bMin at q ⊢; split at q <;> first | exact h _ _ q | exact ⟨q.1, h _ _ q.2⟩ | exact q.elim | ((try dsimp only at q ⊢); split at q <;> first | exact h _ _ q | exact q.elim)), fun pins s σ H xs us Q I rv h => ?_⟩
  obtain ⟨Z, S, ds, rs, r, q⟩ := h
  unfold bMin at q
  split at q <;> first | exact q.elim | skip
  obtain ⟨v, v2, rfl, r1, r2⟩ := r.two
  cases r1
  cases r2
  exact call_min2 hc pins s σ H _ us Q I rv ⟨_, _, rfl, q _ H (.refl rs) (.int _)⟩
theorem cd_int : CallD X (.type "int") bInt := by
  refine ⟨by (intro ds S Q Q' h q; unfold bInt at q ⊢; split at q <;> first | exact h _ _ q | exact ⟨q.1, h _ _ q.2⟩ | exact q.elim | ((try dsimp only at q ⊢); split at q <;> first | exact h _ _ q | exact q.elim)), fun pins s σ H xs us Q I rv h => ?_⟩
  obtain ⟨Z, S, ds, rs, r, q⟩ := h
  unfold bInt at q
  split at q <;> first | exact q.elim | skip
  · obtain ⟨v, rfl, r1⟩ := r.one
    cases r1
    exact call_int1 pins s σ H _ us Q I rv (.inl ⟨_, rfl, q _ H (.refl rs) (.int _)⟩)
  · obtain ⟨v, rfl, r1⟩ := r.one
    cases r1
    exact call_int1 pins s σ H _ us Q I rv (.inr ⟨_, rfl, q _ H (.refl rs) (.int _)⟩)
theorem cd_len : CallD X (.builtin "len") bLen := by
  refine ⟨by (intro ds S Q Q' h q; unfold bLen at q ⊢; split at q <;> first | exact h _ _ q | exact ⟨q.1, h _ _ q.2⟩ | exact q.elim | ((try dsimp only at q ⊢); split at q <;> first | exact h _ _ q | exact q.elim)), fun pins s σ H xs us Q I rv h => ?_⟩
  obtain ⟨Z, S, ds, rs, r, q⟩ := h
  unfold bLen at q
  split at q <;> first | exact q.elim | skip
  · obtain ⟨v, rfl, r1⟩ := r.one
    obtain ⟨a, vs, rfl, hs, hl⟩ := r1.sqT
    exact call_len_seq pins s σ H _ us Q I rv ⟨a, vs, rfl, .inr hs, by rw [← hl.length]; exact q _ H (.refl rs) (.int _)⟩
  · obtain ⟨v, rfl, r1⟩ := r.one
    obtain ⟨a, vs, rfl, hs, hl⟩ := r1.sqL
    exact call_len_seq pins s σ H _ us Q I rv ⟨a, vs, rfl, .inl hs, by rw [← hl.length]; exact q _ H (.refl rs) (.int _)⟩
  · obtain ⟨v, rfl, r1⟩ := r.one
    cases r1
    try dsimp only at q
    split at q <;> first | exact q.elim | skip
    rename_i e
    obtain ⟨vs, hs, hl⟩ := Rp.sqR rs e
    exact call_len_seq pins s σ H _ us Q I rv ⟨_, vs, rfl, .inl hs, by rw [← hl.length]; exact q _ H (.refl rs) (.int _)⟩
  · obtain ⟨v, rfl, r1⟩ := r.one
    cases r1
    exact call_len_str pins s σ H _ us Q I rv ⟨_, rfl, q.1, q.2 _ H (.refl rs) (.int _)⟩
theorem cd_tup : CallD X (.type "tuple") bTup := by
  refine ⟨by (intro ds S Q Q' h q; unfold bTup at q ⊢; split at q <;> first | exact h _ _ q | exact ⟨q.1, h _ _ q.2⟩ | exact q.elim | ((try dsimp only at q ⊢); split at q <;> first | exact h _ _ q | exact q.elim)), fun pins s σ H xs us Q I rv h => ?_⟩
  obtain ⟨Z, S, ds, rs, r, q⟩ := h
  unfold bTup at q
  split at q <;> first | exact q.elim | skip
  · obtain ⟨v, rfl, r1⟩ := r.one
    obtain ⟨a, vs, rfl, hs, hl⟩ := r1.sqT
    exact call_tuple_of pins s σ H _ us Q I rv ⟨a, vs, rfl, .inr ⟨hs, q _ H (.refl rs) r1⟩⟩
  · obtain ⟨v, rfl, r1⟩ := r.one
    obtain ⟨a, vs, rfl, hs, hl⟩ := r1.sqL
    exact call_tuple_of pins s σ H _ us Q I rv ⟨a, vs, rfl, .inl ⟨hs, fun l hn => by
      obtain ⟨a2, r2⟩ := Rp.newT rs hn hl
      exact q _ _ a2 r2⟩⟩
  · obtain ⟨v, rfl, r1⟩ := r.one
    cases r1
    try dsimp only at q
    split at q <;> first | exact q.elim | skip
    rename_i e
    obtain ⟨vs, hs, hl⟩ := Rp.sqR rs e
    exact call_tuple_of pins s σ H _ us Q I rv ⟨_, vs, rfl, .inl ⟨hs, fun l hn => by
      obtain ⟨a2, r2⟩ := Rp.newT rs hn hl
      exact q _ _ a2 r2⟩⟩
theorem cd_lst : CallD X (.type "list") bLst := by
  refine ⟨by (intro ds S Q Q' h q; unfold bLst at q ⊢; split at q <;> first | exact h _ _ q | exact ⟨q.1, h _ _ q.2⟩ | exact q.elim | ((try dsimp only at q ⊢); split at q <;> first | exact h _ _ q | exact q.elim)), fun pins s σ H xs us Q I rv h => ?_⟩
  obtain ⟨Z, S, ds, rs, r, q⟩ := h
  unfold bLst at q
  split at q <;> first | exact q.elim | skip
  · obtain ⟨v, rfl, r1⟩ := r.one
    obtain ⟨a, vs, rfl, hs, hl⟩ := r1.sqT
    exact call_list_of pins s σ H _ us Q I rv ⟨a, vs, rfl, .inr hs, fun l hn => by
      obtain ⟨a2, r2⟩ := Rp.newL rs hn hl
      exact q _ _ a2 r2⟩
  · obtain ⟨v, rfl, r1⟩ := r.one
    obtain ⟨a, vs, rfl, hs, hl⟩ := r1.sqL
    exact call_list_of pins s σ H _ us Q I rv ⟨a, vs, rfl, .inl hs, fun l hn => by
      obtain ⟨a2, r2⟩ := Rp.newL rs hn hl
      exact q _ _ a2 r2⟩
  · obtain ⟨v, rfl, r1⟩ := r.one
    cases r1
    try dsimp only at q
    split at q <;> first | exact q.elim | skip
    rename_i e
    obtain ⟨vs, hs, hl⟩ := Rp.sqR rs e
    exact call_list_of pins s σ H _ us Q I rv ⟨_, vs, rfl, .inl hs, fun l hn => by
      obtain ⟨a2, r2⟩ := Rp.newL rs hn hl
      exact q _ _ a2 r2⟩
end

/-! ### isinstance, a built-in class -/
def tyN : D → Option String
  | .non => some "NoneType"
  | .bl _ => some "bool"
  | .int _ => some "int"
  | .str _ => some "str"
  | .tup _ => some "tuple"
  | .lst _ => some "list"
  | _ => none
def isiD (T : String) (d : D) : Option Bool := (tyN d).bind fun a => kitB a T
def dIsi (T : String) (t : TEd) : TEd := fun env S Q E => t env S (fun d S1 => match isiD T d with | some b => Q (.bl b) S1 | none => False) E
theorem moIsi {T : String} {t : TEd} (h : MoE t) : MoE (dIsi T t) := fun env S Q Q' E E' hq he q => h _ _ _ _ _ _ (fun d S1 q1 => by
  split at q1
  · exact hq _ _ q1
  · exact q1.elim) he q
theorem tyX_of {K : Kz} {S : Sto} {H : Hp} {d : D} {v : V} {a : String} (r : Rp K S H d v) (e : tyN d = some a) : TyX K.K H v (.type a) := by
  cases r with
  | non => cases e; exact .base .non
  | bl b => cases e; exact .base (.bl b)
  | int i => cases e; exact .base (.int i)
  | str x => cases e; exact .base (.str x)
  | tup h1 _ =>
    cases e
    rcases h1 with (h1 | ⟨o, h1⟩) | ⟨o, its, n, h1, h2, _⟩
    · exact .base (.tup h1)
    · exact .fTuple h1
    · exact .kTuple h1 h2
  | lst h1 _ _ _ =>
    cases e
    rcases h1 with h1 | ⟨o, h1⟩
    · exact .base (.lst h1)
    · exact .base (.frz h1)
  | lstK h1 _ =>
    cases e
    obtain ⟨o, its, n, h1, h2, _⟩ := h1
    exact .kList h1 h2
  | ref a => cases e
  | obj a => cases e
section
variable {X : Cx} {W : WX} {e : Expr} {t : TEd} {pos p q : Pos} {x y : Str} {T : String}
variable {P : Program} {w : World} {K : PySem.W.Frag} {mg : Str → Option Value} {base : Heap} {N : List Str} {sc : Scope} {vw : Vw} {k : Nat}
theorem je_isi (c : JC P w K mg base N sc vw k X W) (hx : ("isinstance" : Str) ∈ vw.gs) (hm : mg "isinstance" = none) (hy : y ∈ vw.gs) (hmy : mg y = none) (hv : bootBuiltins y = some (.type T)) (ha : JE X W e t)
    (he : starEach [e, .Name y q] X.env = (false, eval e X.env) :: starEach [.Name y q] X.env := by rfl) : JE X W (.Call (.Name "isinstance" p) [e, .Name y q] [] pos) (dIsi T t) := by
  refine ⟨PE.imp (pe_callB call_isi (c.gl hx) (by rw [c.gg]; exact hm) (by decide +kernel) (pa_cons ha.pe (pa_cons (pe_bltn (v := .ty T) (c.gl hy) (by rw [c.gg]; exact hmy) hv rfl (c.sC.gl y hy).2.1 (c.sC.gl y hy).2.2) pa_nil) he) (c.sC.gl _ hx).2.1 (c.sC.gl _ hx).2.2 he) fun σ H Q h => ?_, moIsi ha.mo⟩
  obtain ⟨Z, env, S, re, rs, q⟩ := h
  refine LE.of ha.mo re rs q (fun d S1 v H1 q1 a1 r1 => ?_) fun x S1 c dx H1 q1 a1 r1 => q1 c dx H1 a1 r1
  unfold isiD at q1
  cases e1 : tyN d with
  | none => rw [e1] at q1; exact q1.elim
  | some a =>
    rw [e1] at q1
    dsimp only [Option.bind_some] at q1
    split at q1 <;> first | exact q1.elim | skip
    rename_i b e2
    exact ⟨v, .ty T, _, _, b, rfl, .ty T, tyX_of r1 e1, kit_ty e2, q1 _ H1 a1 (.bl _)⟩
end
end Bl

namespace Bl
open PySem PySem.Spec PyProof.Rows L2

/-! ### targets -/
inductive Tg where
  | nm (i : Nat)
  | tp (ts : List Tg)
def itemsOf (S : Sto) : D → Option (List D)
  | .tup ds => some ds
  | .lst ds => some ds
  | .ref a => S a
  | _ => none
mutual
def asgT (S : Sto) : Tg → D → Ev → Option Ev
  | .nm i, d, env => some (env.set i (some d))
  | .tp ts, d, env => match itemsOf S d with
    | some ds => asgL S ts ds env
    | none => none
def asgL (S : Sto) : List Tg → List D → Ev → Option Ev
  | [], [], env => some env
  | t :: ts, d :: ds, env => match asgT S t d env with
    | some env1 => asgL S ts ds env1
    | none => none
  | _, _, _ => none
end
mutual
def tgS : Tg → List Nat
  | .nm i => [i]
  | .tp ts => tgsS ts
def tgsS : List Tg → List Nat
  | [] => []
  | t :: ts => tgS t ++ tgsS ts
end
theorem asgL_len {S : Sto} : ∀ {ts : List Tg} {ds : List D} {env env' : Ev}, asgL S ts ds env = some env' → ds.length = ts.length
  | [], [], _, _, _ => rfl
  | [], _ :: _, _, _, h => by unfold asgL at h; cases h
  | _ :: _, [], _, _, h => by unfold asgL at h; cases h
  | t :: ts, d :: ds, env, env', h => by
    unfold asgL at h
    split at h
    · exact congrArg Nat.succ (asgL_len h)
    · cases h
theorem wipe_in {σ : L2.St} {i : Nat} {x : Option V} : ∀ {vs : List Nat}, i ∈ vs → wipe (σ.set i x) vs = wipe σ vs
  | v :: vs, h => by
    unfold wipe
    by_cases hv : i ∈ vs
    · rw [wipe_in hv]
    · have e : v = i := by
        rcases List.mem_cons.mp h with e | e
        · exact e.symm
        · exact absurd e hv
      subst e
      have : ∀ ws : List Nat, v ∉ ws → wipe (σ.set v x) ws = (wipe σ ws).set v x := by
        intro ws
        induction ws with
        | nil => intro _; rfl
        | cons u us ih =>
          intro hn
          have h1 : v ≠ u := fun z => hn (by simp [z])
          have h2 : v ∉ us := fun z => hn (by simp [z])
          unfold wipe
          rw [ih h2, List.set_comm _ _ h1]
      rw [this vs hv, List.set_set]
def LG (K : PySem.W.Frag) (g : Tg) : TG := fun v σ H Q => ∃ Z env S d env', RE ⟨K, Z⟩ S H env σ ∧ RS ⟨K, Z⟩ S H ∧ Rp ⟨K, Z⟩ S H d v ∧ asgT S g d env = some env' ∧
  ∀ σ', RE ⟨K, Z⟩ S H env' σ' → (∀ vs : List Nat, (∀ i ∈ tgS g, i ∈ vs) → wipe σ' vs = wipe σ vs) → Q σ' H
def LGs (K : PySem.W.Frag) (gs : List Tg) : TGs := fun us σ H Q => ∃ Z env S ds env', RE ⟨K, Z⟩ S H env σ ∧ RS ⟨K, Z⟩ S H ∧ RpL ⟨K, Z⟩ S H ds us ∧ asgL S gs ds env = some env' ∧
  ∀ σ', RE ⟨K, Z⟩ S H env' σ' → (∀ vs : List Nat, (∀ i ∈ tgsS gs, i ∈ vs) → wipe σ' vs = wipe σ vs) → Q σ' H
structure JG (X : Cx) (tg : Expr) (g : Tg) : Prop where
  pg : PG X tg (LG X.K g)
structure JGs (X : Cx) (tgs : List Expr) (gs : List Tg) : Prop where
  pg : PGs X tgs (LGs X.K gs)
section
variable {P : Program} {w : World} {K : PySem.W.Frag} {mg : Str → Option Value} {base : Heap} {N : List Str} {sc : Scope} {vw : Vw} {k : Nat} {X : Cx} {W : WX}
theorem JC.loc (c : JC P w K mg base N sc vw k X W) {x : Str} (h : sc.names.lookup x = some .local ∨ sc.names.lookup x = some .cell ∧ ∀ y, X.fn y = true) : Loc X.env.scope x ∧ (X.fn x = true ∨ X.env.scope.names.lookup x = some .local) := by
  rw [c.ss]
  rcases h with h | h
  · exact ⟨.inl h, .inr h⟩
  · exact ⟨.inr h.1, .inl (h.2 x)⟩
theorem jg_name (c : JC P w K mg base N sc vw k X W) (i : Nat) {x : Str} {pos : Pos} (hi : N[i]? = some x) (hx : sc.names.lookup x = some .local ∨ sc.names.lookup x = some .cell ∧ ∀ y, X.fn y = true) : JG X (.Name x pos) (.nm i) := by
  obtain ⟨l1, l2⟩ := c.loc hx
  refine ⟨⟨fun pins s σ H v u Q I r h => ?_⟩⟩
  obtain ⟨Z, env, S, d, env', re, rs, rp, e, q⟩ := h
  refine (pg_name (i := i) (by rw [c.nn]; exact c.nd) (by rw [c.nn]; exact hi) l1 l2).run pins s σ H v u Q I r (q _ ?_ fun vs hv => wipe_in (hv i (by simp [tgS])))
  unfold asgT at e
  cases e
  exact re.set rp i
theorem jgs_nil : JGs X [] [] := by
  refine ⟨⟨fun pins s σ H v u Q I r h => ?_⟩⟩
  obtain ⟨Z, env, S, ds, env', re, rs, rp, e, q⟩ := h
  cases ds with
  | cons d ds => unfold asgL at e; cases e
  | nil =>
    cases rp
    unfold asgL at e
    cases e
    exact pgs_nil.run pins s σ H [] u Q I r ⟨rfl, q σ re fun _ _ => rfl⟩
theorem jgs_cons {e : Expr} {es : List Expr} {g : Tg} {gt : List Tg} (h1 : JG X e g) (h2 : JGs X es gt) (hs : (assignEach (e :: es) X.env).map (·.2) = assign e X.env :: (assignEach es X.env).map (·.2) := by rfl) : JGs X (e :: es) (g :: gt) := by
  refine ⟨⟨fun pins s σ H v u Q I r h => ?_⟩⟩
  obtain ⟨Z, env, S, ds, env', re, rs, rp, e0, q⟩ := h
  cases ds with
  | nil => unfold asgL at e0; cases e0
  | cons d ds =>
    cases rp with
    | cons rp1 rp2 =>
      unfold asgL at e0
      split at e0 <;> first | cases e0; done | skip
      rename_i env1 e1
      refine (pgs_cons h1.pg h2.pg hs).run pins s σ H _ u Q I r ⟨_, _, rfl, Z, env, S, d, env1, re, rs, rp1, e1, fun σ1 re1 w1 => ?_⟩
      exact ⟨Z, env1, S, ds, env', re1, rs, rp2, e0, fun σ2 re2 w2 => q σ2 re2 fun vs hv => by
        rw [w2 vs fun i hi => hv i (by unfold tgsS; exact List.mem_append_right _ hi), w1 vs fun i hi => hv i (by unfold tgsS; exact List.mem_append_left _ hi)]⟩
theorem jg_tup {es : List Expr} {n : Nat} {gt : List Tg} {pos : Pos} (hc : X.calm = true) (h : JGs X es gt) (hn : (assignEach es X.env).length = gt.length := by rfl) (hst : (assignEach es X.env).findIdx? (·.1) = none := by rfl) : JG X (.Tuple es n pos) (.tp gt) := by
  refine ⟨⟨fun pins s σ H v u Q I r h2 => ?_⟩⟩
  obtain ⟨Z, env, S, d, env', re, rs, rp, e, q⟩ := h2
  unfold asgT at e
  split at e <;> first | cases e; done | skip
  rename_i ds e1
  have ln := asgL_len e
  have fin : ∀ vs, RpL ⟨X.K, Z⟩ S H ds vs → LGs X.K gt vs σ H Q := fun vs rl => ⟨Z, env, S, ds, env', re, rs, rl, e, fun σ' r' w' => q σ' r' fun vs hv => w' vs fun i hi => hv i (by unfold tgS; exact hi)⟩
  cases rp with
  | tup h1 h2 =>
    unfold itemsOf at e1
    cases e1
    exact (pg_tup hc h.pg hn hst).run pins s σ H _ u Q I r ⟨_, _, rfl, h1, by rw [← h2.length]; exact ln, fin _ h2⟩
  | lst h1 _ _ h2 =>
    unfold itemsOf at e1
    cases e1
    exact (pg_lst hc h.pg hn hst).run pins s σ H _ u Q I r ⟨_, _, rfl, .inl h1, by rw [← h2.length]; exact ln, fin _ h2⟩
  | lstK h1 h2 =>
    unfold itemsOf at e1
    cases e1
    exact (pg_lst hc h.pg hn hst).run pins s σ H _ u Q I r ⟨_, _, rfl, SqL.ofK h1, by rw [← h2.length]; exact ln, fin _ h2⟩
  | ref a =>
    unfold itemsOf at e1
    obtain ⟨vs, h1, h2⟩ := rs.at_ a ds e1
    exact (pg_lst hc h.pg hn hst).run pins s σ H _ u Q I r ⟨_, _, rfl, SqL.of h1, by rw [← h2.length]; exact ln, fin _ h2⟩
  | _ => unfold itemsOf at e1; cases e1
end

/-! ### blocks -/
def sNx : TSd := fun env S N => N.nx env S
def sSeq (t u : TSd) : TSd := fun env S N => t env S { N with nx := fun e S1 => u e S1 N }
def sRet (t : TEd) : TSd := fun env S N => t env S N.rt fun x S1 => N.ex x env S1
def sRetN : TSd := fun _ S N => N.rt .non S
def sDrop (t : TEd) : TSd := fun env S N => t env S (fun _ S1 => N.nx env S1) fun x S1 => N.ex x env S1
def sIf (c : TTd) (t u : TSd) : TSd := fun env S N => c env S (fun b S1 => if b = true then t env S1 N else u env S1 N) fun x S1 => N.ex x env S1
def sBrk : TSd := fun env S N => N.bk env S
def sCnt : TSd := fun env S N => N.ct env S
def sAsg (t : TEd) (g : Tg) : TSd := fun env S N => t env S (fun d S1 => match asgT S1 g d env with
  | some e => N.nx e S1
  | none => False) fun x S1 => N.ex x env S1
/-- a, b = x, y with plain local names -/
def sPar (is : List Nat) (t : TAd) : TSd := fun env S N => t env S (fun ds S1 => match asgL S1 (is.map .nm) ds env with
  | some e => N.nx e S1
  | none => False) fun x S1 => N.ex x env S1
def sAug (i : Nat) (t : TEd) (f : F2) : TSd := fun env S N => match env[i]? with
  | some (some x) => t env S (fun y S1 => f x y S1 fun z S2 => N.nx (env.set i (some z)) S2) fun x S1 => N.ex x env S1
  | _ => False
def setD (o i v : D) (S : Sto) (Q : Sto → Prop) : Prop := match o, i with
  | .ref a, .int k => match S a with
    | some ds => match ixN ds.length k with
      | some j => Q (sup S a (ds.set j v))
      | none => False
    | none => False
  | _, _ => False
def sSub (te to ti : TEd) : TSd := fun env S N => te env S (fun v S1 => to env S1 (fun o S2 => ti env S2 (fun i S3 => setD o i v S3 fun S4 => N.nx env S4) fun x S3 => N.ex x env S3) fun x S2 => N.ex x env S2) fun x S1 => N.ex x env S1
/-- a list is grown no more -/
def sFrz (i : Nat) (t : TSd) : TSd := fun env S N => match env[i]? with
  | some (some (.ref a)) => match S a with
    | some ds => t (env.set i (some (.lst ds))) (sdel S a) N
    | none => False
  | _ => False
def sWhile (c : TTd) (b : TSd) : TSd := fun env S N => ∃ Wi : Nat → Ev → Sto → Prop, (∃ m, Wi m env S) ∧ ∀ m env S, Wi m env S → c env S (fun k S1 => if k = true then b env S1 { N with nx := fun e s => ∃ m', m' < m ∧ Wi m' e s, ct := fun e s => ∃ m', m' < m ∧ Wi m' e s, bk := N.nx } else N.nx env S1) fun x S1 => N.ex x env S1
def forD (g : Tg) (b : TSd) : List D → Ev → Sto → Nd → Prop
  | [], env, S, N => N.nx env S
  | d :: ds, env, S, N => match asgT S g d env with
    | some e1 => b e1 S { N with nx := fun e s => forD g b ds e s N, ct := fun e s => forD g b ds e s N, bk := N.nx }
    | none => False
def sFor (ti : TAd) (g : Tg) (b : TSd) : TSd := fun env S N => ti env S (fun ds S1 => forD g b ds env S1 N) fun x S1 => N.ex x env S1

theorem NdLe.refl (A : Nd) : NdLe A A := ⟨fun _ _ h => h, fun _ _ h => h, fun _ _ h => h, fun _ _ h => h, fun _ _ _ h => h⟩
theorem moNx : MoS sNx := fun env S A B l h => l.nx _ _ h
theorem moSeq {t u : TSd} (ht : MoS t) (hu : MoS u) : MoS (sSeq t u) := fun env S A B l h => ht env S { A with nx := fun e S1 => u e S1 A } { B with nx := fun e S1 => u e S1 B } ⟨fun e S1 q => hu _ _ _ _ l q, l.rt, l.bk, l.ct, l.ex⟩ h
theorem moRet {t : TEd} (ht : MoE t) : MoS (sRet t) := fun env S A B l h => ht _ _ _ _ _ _ l.rt (fun x S1 q => l.ex _ _ _ q) h
theorem moDrop {t : TEd} (ht : MoE t) : MoS (sDrop t) := fun env S A B l h => ht _ _ _ _ _ _ (fun d S1 q => l.nx _ _ q) (fun x S1 q => l.ex _ _ _ q) h
theorem moIfS {c : TTd} {t u : TSd} (hc : MoE c) (ht : MoS t) (hu : MoS u) : MoS (sIf c t u) := fun env S A B l h => hc _ _ _ _ _ _ (fun b S1 q => by
  cases b
  · exact hu _ _ _ _ l q
  · exact ht _ _ _ _ l q) (fun x S1 q => l.ex _ _ _ q) h
theorem moAsg {t : TEd} {g : Tg} (ht : MoE t) : MoS (sAsg t g) := fun env S A B l h => ht _ _ _ _ _ _ (fun d S1 q => by
  split at q
  · exact l.nx _ _ q
  · exact q.elim) (fun x S1 q => l.ex _ _ _ q) h
theorem moPar {is : List Nat} {t : TAd} (ht : MoE t) : MoS (sPar is t) := fun env S A B l h => ht _ _ _ _ _ _ (fun d S1 q => by
  split at q
  · exact l.nx _ _ q
  · exact q.elim) (fun x S1 q => l.ex _ _ _ q) h
theorem moSetD {o i v : D} {S : Sto} {Q Q' : Sto → Prop} (h : ∀ S, Q S → Q' S) (q : setD o i v S Q) : setD o i v S Q' := by
  unfold setD at q ⊢
  split at q <;> first | exact q.elim | skip
  split at q <;> first | exact q.elim | skip
  split at q <;> first | exact q.elim | exact h _ q
theorem moSub' {te to ti : TEd} (h1 : MoE te) (h2 : MoE to) (h3 : MoE ti) : MoS (sSub te to ti) := fun env S A B l h => h1 _ _ _ _ _ _ (fun v S1 q1 => h2 _ _ _ _ _ _ (fun o S2 q2 => h3 _ _ _ _ _ _ (fun i S3 q3 => moSetD (fun S4 q4 => l.nx _ _ q4) q3)
  (fun x S3 q => l.ex _ _ _ q) q2) (fun x S2 q => l.ex _ _ _ q) q1) (fun x S1 q => l.ex _ _ _ q) h
theorem moWhile {c : TTd} {b : TSd} (hc : MoE c) (hb : MoS b) : MoS (sWhile c b) := fun env S A B l h => by
  obtain ⟨Wi, h0, turn⟩ := h
  refine ⟨Wi, h0, fun m env S hw => hc _ _ _ _ _ _ (fun k S1 q => ?_) (fun x S1 q => l.ex _ _ _ q) (turn m env S hw)⟩
  cases k
  · exact l.nx _ _ q
  · exact hb _ _ { A with nx := fun e s => ∃ m', m' < m ∧ Wi m' e s, ct := fun e s => ∃ m', m' < m ∧ Wi m' e s, bk := A.nx } _ ⟨fun _ _ z => z, l.rt, l.nx, fun _ _ z => z, l.ex⟩ q
theorem moForD {g : Tg} {b : TSd} (hb : MoS b) : ∀ (ds : List D) (env : Ev) (S : Sto) (A B : Nd), NdLe A B → forD g b ds env S A → forD g b ds env S B
  | [], env, S, A, B, l, h => l.nx _ _ h
  | d :: ds, env, S, A, B, l, h => by
    unfold forD at h ⊢
    split at h <;> first | exact h.elim | skip
    exact hb _ _ { A with nx := fun e s => forD g b ds e s A, ct := fun e s => forD g b ds e s A, bk := A.nx } _ ⟨fun e s q => moForD hb ds e s A B l q, l.rt, l.nx, fun e s q => moForD hb ds e s A B l q, l.ex⟩ h
theorem moFor {ti : TAd} {g : Tg} {b : TSd} (ht : MoE ti) (hb : MoS b) : MoS (sFor ti g b) := fun env S A B l h => ht _ _ _ _ _ _ (fun ds S1 q => moForD hb ds env S1 A B l q) (fun x S1 q => l.ex _ _ _ q) h

section
variable {P : Program} {w : World} {K : PySem.W.Frag} {mg : Str → Option Value} {base : Heap} {N : List Str} {sc : Scope} {vw : Vw} {k : Nat} {X : Cx} {W : WX}
variable {st : Stmt} {rest a b : List Stmt} {t u : TSd} {e o i : Expr} {te to ti : TEd} {tc : TTd} {pos pos' : Pos}
theorem jb_nil : JB X W [] sNx := ⟨PSs.imp pss_nil fun N σ H h => by
  obtain ⟨Z, env, S, re, rs, q⟩ := h
  exact q σ H (.refl rs) re, moNx⟩
theorem jb_cons (h1 : JS X W st t) (h2 : JB X W rest u) : JB X W (st :: rest) (sSeq t u) := by
  refine ⟨PSs.imp (pss_cons h1.ps h2.ps) fun N σ H h => ?_, moSeq h1.mo h2.mo⟩
  obtain ⟨Z, env, S, re, rs, q⟩ := h
  refine LS.of h1.mo re rs q ⟨fun e S1 q1 σ1 H1 a1 r1 => ?_, fun _ _ z => z, fun _ _ z => z, fun _ _ z => z, fun _ _ _ z => z⟩
  exact LS.of h2.mo r1 a1.rs q1 (LN.after a1 N)
theorem jb_one (h1 : JS X W st t) : JB X W [st] t := ⟨pss_one h1.ps, h1.mo⟩
/-- exceptions out of an expression of a statement -/
theorem exS {K : Kz} {S S1 : Sto} {H H1 : Hp} {env : Ev} {σ : L2.St} {M : Ends} {x : Xc} {c : Value} {dx : Option Addr} (re : RE K S H env σ) (rs : RS K S H) (q : (LN K S H W M).ex x env S1) (a : Aft K S H S1 H1) (r : RX K S1 H1 x c dx) : W c dx σ H1 := q c dx σ H1 a (re.step a.st rs) r
theorem js_expr (he : JE X W e te) (hs : swapsWith e none pos.line X.env = pure false := by rfl) : JS X W (.Expr e pos) (sDrop te) := by
  refine ⟨PS.imp (ps_expr he.pe hs) fun N σ H h => ?_, moDrop he.mo⟩
  obtain ⟨Z, env, S, re, rs, q⟩ := h
  exact LE.of he.mo re rs q (fun d S1 v H1 q1 a1 r1 => q1 σ H1 a1 (re.step a1.st rs)) fun x S1 c dx H1 q1 a1 r1 => exS re rs q1 a1 r1
theorem js_ret (he : JE X W e te) : JS X W (.Return (some e) pos) (sRet te) := by
  refine ⟨PS.imp (ps_ret he.pe) fun N σ H h => ?_, moRet he.mo⟩
  obtain ⟨Z, env, S, re, rs, q⟩ := h
  exact LE.of he.mo re rs q (fun d S1 v H1 q1 a1 r1 => q1 v H1 a1 r1) fun x S1 c dx H1 q1 a1 r1 => exS re rs q1 a1 r1
theorem js_if {c : Expr} (hc : JT X W c tc) (ha : JB X W a t) (hb : JB X W b u) : JS X W (.If c a b pos) (sIf tc t u) := by
  refine ⟨PS.imp (ps_if hc.pt ha.ps hb.ps) fun N σ H h => ?_, moIfS hc.mo ha.mo hb.mo⟩
  obtain ⟨Z, env, S, re, rs, q⟩ := h
  refine LT.of hc.mo re rs q (fun c S1 H1 q1 a1 => ?_) fun x S1 c dx H1 q1 a1 r1 => exS re rs q1 a1 r1
  cases c with
  | true => exact iteT (LS.of ha.mo (re.step a1.st rs) a1.rs q1 (LN.after a1 N))
  | false => exact iteF (LS.of hb.mo (re.step a1.st rs) a1.rs q1 (LN.after a1 N))
theorem js_asg {tg : Expr} {g : Tg} (he : JE X W e te) (hg : JG X tg g) (hs : swapsWithSole [tg] e pos.line X.env = pure false := by rfl) (hw : swappedStores [tg] e X.env = pure none := by rfl) (h1 : (assignEach [tg] X.env).map (·.2) = [assign tg X.env] := by rfl) :
    JS X W (.Assign [tg] e pos) (sAsg te g) := by
  refine ⟨PS.imp (ps_asg he.pe hg.pg hs hw h1) fun N σ H h => ?_, moAsg he.mo⟩
  obtain ⟨Z, env, S, re, rs, q⟩ := h
  refine LE.of he.mo re rs q (fun d S1 v H1 q1 a1 r1 => ?_) fun x S1 c dx H1 q1 a1 r1 => exS re rs q1 a1 r1
  split at q1 <;> first | exact q1.elim | skip
  rename_i e1 ee
  exact ⟨Z, env, S1, d, e1, re.step a1.st rs, a1.rs, r1, ee, fun σ' r' _ => q1 σ' H1 a1 r'⟩
theorem js_set (c : JC P w K mg base N sc vw k X W) (j : Nat) {x : Str} (hi : N[j]? = some x) (hx : sc.names.lookup x = some .local ∨ sc.names.lookup x = some .cell ∧ ∀ y, X.fn y = true) (he : JE X W e te) (hs : swapsWith e (some (.Name x pos')) pos.line X.env = pure false := by rfl) :
    JS X W (.Assign [.Name x pos'] e pos) (sAsg te (.nm j)) := by
  obtain ⟨l1, l2⟩ := c.loc hx
  refine ⟨PS.imp (ps_set (i := j) (by rw [c.nn]; exact c.nd) (by rw [c.nn]; exact hi) l1 he.pe hs l2) fun N σ H h => ?_, moAsg he.mo⟩
  obtain ⟨Z, env, S, re, rs, q⟩ := h
  refine LE.of he.mo re rs q (fun d S1 v H1 q1 a1 r1 => ?_) fun x S1 c dx H1 q1 a1 r1 => exS re rs q1 a1 r1
  unfold asgT at q1
  exact q1 _ H1 a1 ((re.step a1.st rs).set r1 j)
theorem js_par {x y : Str} {p q : Expr} {ta : TAd} {px py pt : Pos} {kt k2 : Nat} {pt2 : Pos} (c : JC P w K mg base N sc vw k X W) (l j : Nat) (hl : N[l]? = some x) (hj : N[j]? = some y) (hlj : l ≠ j) (hx : sc.names.lookup x = some .local) (hy : sc.names.lookup y = some .local) (ha : JA X W [p, q] ta)
    (hw : swappedStores [.Tuple [.Name x px, .Name y py] kt pt] (.Tuple [p, q] k2 pt2) X.env = pure (some [x, y])) (hs : swapsWithSole [.Tuple [.Name x px, .Name y py] kt pt] (.Tuple [p, q] k2 pt2) pos.line X.env = pure false := by rfl) :
    JS X W (.Assign [.Tuple [.Name x px, .Name y py] kt pt] (.Tuple [p, q] k2 pt2) pos) (sPar [l, j] ta) := by
  refine ⟨PS.imp (ps_par c.calm (by rw [c.nn]; exact c.nd) (by rw [c.nn]; exact hl) (by rw [c.nn]; exact hj) hlj (by rw [c.ss]; exact hx) (by rw [c.ss]; exact hy) ha.pa hw hs) fun N σ H h => ?_, moPar ha.mo⟩
  obtain ⟨Z, env, S, re, rs, q⟩ := h
  refine LA.of ha.mo re rs q (fun ds S1 vs H1 q1 a1 r1 => ?_) fun x S1 c dx H1 q1 a1 r1 => exS re rs q1 a1 r1
  split at q1 <;> first | exact q1.elim | skip
  rename_i e1 ee
  have ln := asgL_len ee
  match ds, r1, ln, ee with
  | [d1, d2], r1, _, ee =>
    obtain ⟨v1, v2, rfl, r1, r2⟩ := r1.two
    refine ⟨v1, v2, rfl, ?_⟩
    simp only [List.map_cons, List.map_nil, asgL, asgT, Option.some.injEq] at ee
    subst ee
    exact q1 _ H1 a1 (((re.step a1.st rs).set r1 l).set r2 j)
theorem js_sub (ho : JE X W o to) (hi : JE X W i ti) (he : JE X W e te) (hs : swapsWithSole [.Subscript o i pos'] e pos.line X.env = pure false := by rfl) (hw : swappedStores [.Subscript o i pos'] e X.env = pure none := by rfl)
    (h1 : (assignEach [.Subscript o i pos'] X.env).map (·.2) = [assign (.Subscript o i pos') X.env] := by rfl)
    (ha : ∀ v, assign (.Subscript o i pos') X.env v = (do
      let ov ← holding [v] (eval o X.env)
      let iv ← holding [v, ov] (eval i X.env)
      standAt pos'
      holding [v, ov, iv] (setItem ov iv v)
      release [v, ov, iv] []) := by intro _; rfl) : JS X W (.Assign [.Subscript o i pos'] e pos) (sSub te to ti) := by
  refine ⟨PS.imp (ps_asg he.pe (pg_sub ho.pe hi.pe set_list ha) hs hw h1) fun N σ H h => ?_, moSub' he.mo ho.mo hi.mo⟩
  obtain ⟨Z, env, S, re, rs, q⟩ := h
  refine LE.of he.mo re rs q (fun d S1 v H1 q1 a1 r1 => ?_) fun x S1 c dx H1 q1 a1 r1 => exS re rs q1 a1 r1
  refine LE.of ho.mo (re.step a1.st rs) a1.rs q1 (fun d2 S2 ov H2 q2 a2 r2 => ?_) fun x S2 c dx H2 q2 a2 r2 => exS re rs q2 (a1.trans a2) r2
  have a12 := a1.trans a2
  refine LE.of hi.mo (re.step a12.st rs) a2.rs q2 (fun d3 S3 iv H3 q3 a3 r3 => ?_) fun x S3 c dx H3 q3 a3 r3 => exS re rs q3 (a12.trans a3) r3
  have a13 := a12.trans a3
  unfold setD at q3
  split at q3 <;> first | exact q3.elim | skip
  split at q3 <;> first | exact q3.elim | skip
  rename_i ad kk ds e0
  split at q3 <;> first | exact q3.elim | skip
  rename_i jj e1
  cases r2
  cases r3
  obtain ⟨vs, hl, rl⟩ := a3.rs.at_ _ _ e0
  have rv := Rp.step a3.st a2.rs _ _ (Rp.step a2.st a1.rs _ _ r1)
  refine ⟨_, vs, _, jj, rfl, rfl, hl, by rw [← rl.length]; exact e1, ?_⟩
  have a4 := Rp.putR a3.rs e0 (rl.set jj rv)
  exact q3 σ _ (a13.trans a4) (re.step (a13.trans a4).st rs)
theorem js_while {c : Expr} {body : List Stmt} (hd : JD P w K mg base N sc vw k X W) (hc : JT X W c tc) (hb : JB X W body t) : JS X W (.While c body [] pos) (sWhile tc t) := by
  refine ⟨PS.imp (ps_while hd.po hc.pt hb.ps) fun M σ H h => ?_, moWhile hc.mo hb.mo⟩
  obtain ⟨Z, env, S, re, rs, q⟩ := h
  obtain ⟨Wi, ⟨m0, w0⟩, turn⟩ := q
  refine ⟨fun m σ' H' => ∃ env' S', Aft ⟨X.K, Z⟩ S H S' H' ∧ RE ⟨X.K, Z⟩ S' H' env' σ' ∧ Wi m env' S', ⟨m0, env, S, .refl rs, re, w0⟩, fun m σ1 H1 hw => ?_⟩
  obtain ⟨env1, S1, a1, re1, w1⟩ := hw
  refine LT.of hc.mo re1 a1.rs (turn m env1 S1 w1) (fun b S2 H2 q2 a2 => ?_) fun x S2 c dx H2 q2 a2 r2 => q2 c dx σ1 H2 (a1.trans a2) (re1.step a2.st a1.rs) r2
  have a12 := a1.trans a2
  cases b with
  | false => exact iteF (q2 σ1 H2 a12 (re1.step a2.st a1.rs))
  | true =>
    refine iteT ⟨fun σ' H' => ∃ m', m' < m ∧ ∃ env' S', Aft ⟨X.K, Z⟩ S H S' H' ∧ RE ⟨X.K, Z⟩ S' H' env' σ' ∧ Wi m' env' S', fun σ' H' hh => hh, ?_⟩
    refine LS.of hb.mo (re1.step a2.st a1.rs) a2.rs q2 ⟨fun e s hh σ' H' a3 r3 => ?_, fun d s hh v H' a3 r3 => hh v H' (a12.trans a3) r3, fun e s hh σ' H' a3 r3 => hh σ' H' (a12.trans a3) r3, fun e s hh σ' H' a3 r3 => ?_, fun x e s hh c dx σ' H' a3 r3 rx => hh c dx σ' H' (a12.trans a3) r3 rx⟩
    · obtain ⟨m', hm, hw⟩ := hh
      exact ⟨m', hm, e, s, a12.trans a3, r3, hw⟩
    · obtain ⟨m', hm, hw⟩ := hh
      exact ⟨m', hm, e, s, a12.trans a3, r3, hw⟩
end

/-! ### what is walked -/
def WkD (K : Kz) (S : Sto) (H : Hp) (J : It) (ds : List D) : Prop := ∃ (G : Hp → Prop) (Y : Nat → Hp → V → Hp → Prop), Walk J ds.length G Y ∧ (∀ S' H', Step S H S' H' → G H') ∧
  ∀ (K' : Kz) i S' H' x H'', K'.K = K.K → Step S H S' H' → RS K' S' H' → (∀ d v, Rp K S H d v → Rp K' S' H' d v) → i < ds.length → Y i H' x H'' → Aft K' S' H' S' H'' ∧ ∃ d, ds[i]? = some d ∧ Rp K' S' H'' d x
def LI (K : PySem.W.Frag) (W : WX) (t : TAd) : TI := fun σ H R => ∃ Z env S, RE ⟨K, Z⟩ S H env σ ∧ RS ⟨K, Z⟩ S H ∧ t env S (fun ds S' => ∀ J H', Aft ⟨K, Z⟩ S H S' H' → WkD ⟨K, Z⟩ S' H' J ds → R J H') (PX ⟨K, Z⟩ S H σ W)
structure JI (X : Cx) (W : WX) (tg iter : Expr) (t : TAd) : Prop where
  pi : PI X tg iter (LI X.K W t)
  mo : MoE t
theorem LI.of {K : Kz} {W : WX} {S : Sto} {H : Hp} {env : Ev} {σ : L2.St} {t : TAd} (mo : MoE t) (re : RE K S H env σ) (rs : RS K S H) {C : List D → Sto → Prop} {E : EK} {R : It → Hp → Prop} (h : t env S C E)
    (hc : ∀ ds S1 J H1, C ds S1 → Aft K S H S1 H1 → WkD K S1 H1 J ds → R J H1) (he : ∀ x S1 c dx H1, E x S1 → Aft K S H S1 H1 → RX K S1 H1 x c dx → W c dx σ H1) : LI K.K W t σ H R :=
  ⟨K.Z, env, S, re, rs, mo _ _ _ _ _ _ (fun ds S1 q J H1 a wk => hc ds S1 J H1 q a wk) (fun x S1 q c dx H1 a r => he x S1 c dx H1 q a r) h⟩
section
variable {P : Program} {w : World} {K : PySem.W.Frag} {mg : Str → Option Value} {base : Heap} {N : List Str} {sc : Scope} {vw : Vw} {k : Nat} {X : Cx} {W : WX}
theorem js_for {tg iter : Expr} {body : List Stmt} {tb : TSd} {ti : TAd} {g : Tg} {pos : Pos} (hd : JD P w K mg base N sc vw k X W) (hi : JI X W tg iter ti) (hg : JG X tg g) (hb : JB X W body tb) (hs : ∀ x, foldedSetIterable iter X.env x = pure x := by intro _; rfl) : JS X W (.For tg iter body [] pos) (sFor ti g tb) := by
  refine ⟨PS.imp (ps_for hd.po hd.calm hi.pi hg.pg hb.ps hs) fun M σ H h => ?_, moFor hi.mo hb.mo⟩
  obtain ⟨Z, env, S, re, rs, q⟩ := h
  refine LI.of hi.mo re rs q (fun ds S1 J H1 q1 a1 wk => ?_) fun x S1 c dx H1 q1 a1 r1 => exS re rs q1 a1 r1
  obtain ⟨G, Y, wk, hG, hY⟩ := wk
  refine for_it wk (fun i σ' H' => ∃ env' S', Aft ⟨X.K, Z⟩ S1 H1 S' H' ∧ RE ⟨X.K, Z⟩ S' H' env' σ' ∧ forD g tb (ds.drop i) env' S' (LN ⟨X.K, Z⟩ S H W M)) ⟨env, S1, .refl a1.rs, re.step a1.st rs, q1⟩ (fun i σ' H' _ ⟨env', S', a, _, _⟩ => hG S' H' a.st) (fun i x σ' H' H'' hi hp y => ?_) fun σ' H' hp => ?_
  · obtain ⟨env', S', a, re', q'⟩ := hp
    obtain ⟨a2, d, ed, rd⟩ := hY ⟨X.K, Z⟩ i S' H' x H'' rfl a.st a.rs (fun d v r => Rp.step a.st a1.rs d v r) hi y
    have e0 : ds.drop i = d :: ds.drop (i + 1) := by
      rw [List.drop_eq_getElem_cons hi]
      congr 1
      rw [List.getElem?_eq_getElem hi] at ed
      exact Option.some.inj ed
    rw [e0] at q'
    unfold forD at q'
    split at q' <;> first | exact q'.elim | skip
    rename_i e1 ee
    have a3 := a.trans a2
    have a13 := a1.trans a3
    refine ⟨Z, env', S', d, e1, re'.step a2.st a.rs, a2.rs, rd, ee, fun σ2 r2 _ => ?_⟩
    refine LS.of hb.mo r2 a2.rs q' ⟨fun e s hh σ3 H3 a4 r3 => ⟨e, s, a3.trans a4, r3, hh⟩, fun d s hh v H3 a4 r3 => hh v H3 (a13.trans a4) r3, fun e s hh σ3 H3 a4 r3 => hh σ3 H3 (a13.trans a4) r3, fun e s hh σ3 H3 a4 r3 => ⟨e, s, a3.trans a4, r3, hh⟩, fun x e s hh c dx σ3 H3 a4 r3 rx => hh c dx σ3 H3 (a13.trans a4) r3 rx⟩
  · obtain ⟨env', S', a, re', q'⟩ := hp
    rw [List.drop_length] at q'
    unfold forD at q'
    exact q' σ' H' (a1.trans a) re'

/-! #### iterators -/
theorem it_list {tg : Expr} {pins : List (Addr × Obj)} {σ : L2.St} {H : Hp} {s : Shared} {R : It → Hp → Prop} {a : Addr} {xs : List V} (I : Inv X pins σ H s) (hq : SqL X.K H a xs) (q : R (Itl X.K a) H) : wpAny (model X.prog X.w) X.A (pyIter (.ref a)) (PIE X pins σ tg R) X.xe s := by
  obtain ⟨its, _, pln, _⟩ := I.list hq
  refine wpAny_pyIter_list pln.isList ⟨s.heap.objs.size, [s.heap.objs.size], _, _, H, rfl, I.kept (t' := s.toks) fun _ _ e => Heap.get?_push_of_some _ e, turn_list a _, ⟨_, Heap.get?_push_size _ rfl, rfl, rfl⟩, fun b hb => ?_, q⟩
  obtain rfl : b = s.heap.objs.size := by simpa using hb
  exact I.fpOk (Nat.le_refl _) (I.hok.fresh (Nat.le_refl _))
theorem it_tup {tg : Expr} {pins : List (Addr × Obj)} {σ : L2.St} {H : Hp} {s : Shared} {R : It → Hp → Prop} {a : Addr} {xs : List V} (I : Inv X pins σ H s) (hq : SqT X.K H a xs) (q : R (Itt X.K a) H) : wpAny (model X.prog X.w) X.A (pyIter (.ref a)) (PIE X pins σ tg R) X.xe s := by
  obtain ⟨its, _, pln, _⟩ := I.tuple hq
  refine wpAny_pyIter_tuple (show s.heap.IsTuple a its.toArray from pln) ⟨s.heap.objs.size, [s.heap.objs.size], _, _, H, rfl, I.kept (t' := s.toks) fun _ _ e => Heap.get?_push_of_some _ e, turn_tuple a _, ⟨_, Heap.get?_push_size _ rfl, rfl, rfl⟩, fun b hb => ?_, q⟩
  obtain rfl : b = s.heap.objs.size := by simpa using hb
  exact I.fpOk (Nat.le_refl _) (I.hok.fresh (Nat.le_refl _))
/-- a list or a tuple that stands still -/
def iVal (t : TEd) : TAd := fun env S Q E => t env S (fun d S1 => match d with
  | .tup ds => Q ds S1
  | .lst ds => Q ds S1
  | _ => False) E
theorem moIVal {t : TEd} (ht : MoE t) : MoE (iVal t) := fun env S Q Q' E E' h he q => ht _ _ _ _ _ _ (fun d S1 q1 => by
  cases d <;> first | exact h _ _ q1 | exact q1) he q
theorem wk_at {K : Kz} {S : Sto} {H : Hp} {J : It} {G : Hp → Prop} {ds : List D} {vs : List V} (rl : RpL K S H ds vs) (wk : Walk J vs.length G (YAt vs)) (hG : ∀ S' H', Step S H S' H' → G H') : WkD K S H J ds := by
  refine ⟨G, YAt vs, by rw [rl.length]; exact wk, hG, fun K' i S' H' x H'' _ _ rs' tr hi y => ?_⟩
  obtain ⟨rfl, e⟩ := y
  obtain ⟨d, e1, r1⟩ := rl.get' e
  exact ⟨.refl rs', d, e1, tr d x r1⟩
theorem wk_list {K : Kz} {S : Sto} {H : Hp} {a : Addr} {ds : List D} (r : Rp K S H (.lst ds) (.ref a)) : WkD K S H (Itl K.K a) ds := by
  cases r with
  | lst h1 h2 _ h4 => exact wk_at h4 walk_list fun S' H' st => .inl (st.rdL h1 h2).1
  | lstK h1 h2 => exact wk_at h2 walk_list fun S' H' st => SqL.ofK h1
theorem wk_tup {K : Kz} {S : Sto} {H : Hp} {a : Addr} {ds : List D} (rs : RS K S H) (r : Rp K S H (.tup ds) (.ref a)) : WkD K S H (Itt K.K a) ds := by
  cases r with
  | tup h1 h2 => exact wk_at h2 walk_tup fun S' H' st => st.sqT rs h1
theorem ji_val {tg e : Expr} {te : TEd} (he : JE X W e te) : JI X W tg e (iVal te) := by
  refine ⟨⟨fun pins s σ H R I h => ?_⟩, moIVal he.mo⟩
  obtain ⟨Z, env, S, re, rs, q⟩ := h
  refine thn (he.pe.run pins s σ H _ I (LE.of he.mo re rs q (R := fun v H1 => ∃ d S1, Aft ⟨X.K, Z⟩ S H S1 H1 ∧ Rp ⟨X.K, Z⟩ S1 H1 d v ∧ match d with
    | .tup ds => ∀ J H', Aft ⟨X.K, Z⟩ S H S1 H' → WkD ⟨X.K, Z⟩ S1 H' J ds → R J H'
    | .lst ds => ∀ J H', Aft ⟨X.K, Z⟩ S H S1 H' → WkD ⟨X.K, Z⟩ S1 H' J ds → R J H'
    | _ => False) (fun d S1 v H1 q1 a1 r1 => ⟨d, S1, a1, r1, q1⟩) fun x S1 c dx H1 q1 a1 r1 => q1 c dx H1 a1 r1)) fun u s1 ⟨v, H1, I1, ru, d, S1, a1, r1, q1⟩ => ?_
  cases d <;> first | exact q1.elim | skip
  · obtain ⟨a, vs, rfl, hq, _⟩ := r1.sqT
    cases ru
    exact it_tup I1 hq (q1 _ H1 a1 (wk_tup a1.rs r1))
  · obtain ⟨a, vs, rfl, hq, _⟩ := r1.sqL
    cases ru
    exact it_list I1 hq (q1 _ H1 a1 (wk_list r1))
/-! ranges -/
def rngD (lo : Int) (n : Nat) : List D := (List.range n).map fun i : Nat => D.int (lo + i)
def iR1 (t : TAd) : TAd := fun env S Q E => t env S (fun ds S1 => match ds with
  | [.int j] => -(2 ^ 62) ≤ j ∧ j < 2 ^ 62 ∧ Q (rngD 0 j.toNat) S1
  | _ => False) E
def iR2 (t : TAd) : TAd := fun env S Q E => t env S (fun ds S1 => match ds with
  | [.int i, .int j] => (-(2 ^ 62) ≤ i ∧ i < 2 ^ 62 ∧ -(2 ^ 62) ≤ j ∧ j < 2 ^ 62) ∧ Q (rngD i (j - i).toNat) S1
  | _ => False) E
theorem moR1 {t : TAd} (ht : MoE t) : MoE (iR1 t) := fun env S Q Q' E E' h he q => ht _ _ _ _ _ _ (fun ds S1 q1 => by
  split at q1
  · exact ⟨q1.1, q1.2.1, h _ _ q1.2.2⟩
  · exact q1.elim) he q
theorem moR2 {t : TAd} (ht : MoE t) : MoE (iR2 t) := fun env S Q Q' E E' h he q => ht _ _ _ _ _ _ (fun ds S1 q1 => by
  split at q1
  · exact ⟨q1.1, h _ _ q1.2⟩
  · exact q1.elim) he q
theorem wk_rng {K : Kz} {S : Sto} {H : Hp} {lo : Int} {n : Nat} : WkD K S H (Itr lo n) (rngD lo n) := by
  have hl : (rngD lo n).length = n := by simp [rngD]
  refine ⟨fun _ => True, YFn fun i => .int (lo + i), by rw [hl]; exact walk_range, fun _ _ _ => trivial, fun K' i S' H' x H'' _ _ rs' tr hi y => ?_⟩
  obtain ⟨rfl, rfl⟩ := y
  rw [hl] at hi
  exact ⟨.refl rs', .int (lo + i), by simp [rngD, hi], .int _⟩
theorem PI.imp {X : Cx} {tg e : Expr} {t u : TI} (h : PI X tg e t) (k : ∀ σ H Q, u σ H Q → t σ H Q) : PI X tg e u := ⟨fun pins s σ H Q I q => h.run pins s σ H Q I (k σ H Q q)⟩
theorem ji_r1 {tg e : Expr} {ta : TAd} {p pos : Pos} (c : JC P w K mg base N sc vw k X W) (hx : ("range" : Str) ∈ vw.gs) (hm : mg "range" = none) (ha : JA X W [e] ta) (hs : starEach [e] X.env = [(false, eval e X.env)] := by rfl) : JI X W tg (.Call (.Name "range" p) [e] [] pos) (iR1 ta) := by
  refine ⟨PI.imp (pi_range1 (c.gl hx) (by rw [c.gg]; exact hm) ha.pa hs) fun σ H R h => ?_, moR1 ha.mo⟩
  obtain ⟨Z, env, S, re, rs, q⟩ := h
  refine LA.of ha.mo re rs q (fun ds S1 vs H1 q1 a1 r1 => ?_) fun x S1 c dx H1 q1 a1 r1 => q1 c dx H1 a1 r1
  split at q1 <;> first | exact q1.elim | skip
  obtain ⟨v, rfl, r2⟩ := r1.one
  cases r2
  exact ⟨_, rfl, q1.1, q1.2.1, q1.2.2 _ H1 a1 wk_rng⟩
end

/-! ### list comprehensions -/
def wipeD (env : Ev) : List Nat → Ev
  | [] => env
  | v :: vs => (wipeD env vs).set v none
theorem RE.wipe {K : Kz} {S : Sto} {H : Hp} {env : Ev} {σ : L2.St} (re : RE K S H env σ) : ∀ vs : List Nat, RE K S H (wipeD env vs) (wipe σ vs)
  | [] => re
  | v :: vs => (RE.wipe re vs).unset v
abbrev EF : EK := fun _ _ => False
def lcGo (g : Tg) (tt : TTd) (te : TEd) (env : Ev) : List D → Sto → (List D → Sto → Prop) → Prop
  | [], S, Q => Q [] S
  | d :: ds, S, Q => match asgT S g d env with
    | some e1 => tt e1 S (fun b S1 => if b = true then te e1 S1 (fun y S2 => lcGo g tt te env ds S2 fun ys S3 => Q (y :: ys) S3) EF else lcGo g tt te env ds S1 Q) EF
    | none => False
def dLc (ti : TAd) (g : Tg) (tt : TTd) (te : TEd) (vs : List Nat) : TEd := fun env S Q E => ti env S (fun ds S1 => ds.length < sizeLine ∧ lcGo g tt te (wipeD env vs) ds S1 fun ys S2 => Q (.lst ys) S2) E
/-- the list that is made is to be grown -/
def dLcR (ti : TAd) (g : Tg) (tt : TTd) (te : TEd) (vs : List Nat) : TEd := fun env S Q E => ti env S (fun ds S1 => ds.length < sizeLine ∧ lcGo g tt te (wipeD env vs) ds S1 fun ys S2 => ∀ a, S2 a = none → Q (.ref a) (sup S2 a ys)) E
theorem moLcGo {g : Tg} {tt : TTd} {te : TEd} (ht : MoE tt) (he : MoE te) (env : Ev) : ∀ (ds : List D) (S : Sto) (Q Q' : List D → Sto → Prop), (∀ ys S, Q ys S → Q' ys S) → lcGo g tt te env ds S Q → lcGo g tt te env ds S Q'
  | [], S, Q, Q', h, q => h _ _ q
  | d :: ds, S, Q, Q', h, q => by
    unfold lcGo at q ⊢
    split at q <;> first | exact q.elim | skip
    refine ht _ _ _ _ _ _ (fun b S1 q1 => ?_) (fun _ _ z => z) q
    cases b with
    | false => exact iteF (moLcGo ht he env ds S1 Q Q' h q1)
    | true => exact iteT (he _ _ _ _ _ _ (fun y S2 q2 => moLcGo ht he env ds S2 _ _ (fun ys S3 q3 => h _ _ q3) q2) (fun _ _ z => z) q1)
theorem moLc {ti : TAd} {g : Tg} {tt : TTd} {te : TEd} {vs : List Nat} (hi : MoE ti) (ht : MoE tt) (he : MoE te) : MoE (dLc ti g tt te vs) := fun env S Q Q' E E' h hx q => hi _ _ _ _ _ _ (fun ds S1 q1 => ⟨q1.1, moLcGo ht he _ _ _ _ _ (fun ys S2 q2 => h _ _ q2) q1.2⟩) hx q
def tYesD : TTd := fun _ S Q _ => Q true S
theorem moYesD : MoE tYesD := fun env S Q Q' E E' h he q => h _ _ q
structure JTs (X : Cx) (W : WX) (ifs : List Expr) (t : TTd) : Prop where
  pt : PTs X ifs (LT X.K W t)
  mo : MoE t
abbrev W0 : WX := fun _ _ _ _ => False
theorem jts_nil {X : Cx} {W : WX} : JTs X W [] tYesD := ⟨⟨fun pins s σ H Q I h => by
  obtain ⟨Z, env, S, re, rs, q⟩ := h
  exact pts_nil.run pins s σ H Q I (q H (.refl rs))⟩, moYesD⟩
theorem jts_one {X : Cx} {W : WX} {c : Expr} {t : TTd} (h : JT X W c t) : JTs X W [c] t := ⟨pts_one h.pt, h.mo⟩
/-- the turns of a comprehension, the new list at p out of sight -/
theorem lc_run {K : Kz} {J : It} {S : Sto} {H : Hp} {g : Tg} {tt : TTd} {te : TEd} {vs : List Nat} {env : Ev} {σ : L2.St} {ds : List D} {p : Addr} {Qd : Hp → Prop} {QQ : List D → Sto → Prop} (ht : MoE tt) (he : MoE te) (hgv : ∀ i ∈ tgS g, i ∈ vs) (re : RE K S H env σ) (rs : RS K S H) (wk : WkD K S H J ds) (hp : H p = none)
    (hl : ds.length < sizeLine) (h : lcGo g tt te (wipeD env vs) ds S QQ)
    (hd : ∀ S' H' acc accD, QQ accD S' → Step S H S' H' → RS (K.more p) S' H' → H' p = some (.lst acc) → RpL (K.more p) S' H' accD acc → Qd H') :
    ∃ Wi : Nat → Nat → Hp → Prop, (∃ m, Wi 0 m (upd H p (.lst []))) ∧ ∀ i m H, Wi i m H →
      (J.stop i H ∧ Qd H) ∨ (J.go i H ∧ ∃ Nx : Hp → Prop, (∀ H', Nx H' → ∃ m', m' < m ∧ Wi (i + 1) m' H') ∧ ∀ x H', J.yld i H x H' → LG K.K g x (wipe σ vs) H' fun σ2 H2 => wipe σ2 vs = wipe σ vs ∧ LT K.K W0 tt σ2 H2 fun b H3 =>
        if b = true then LE K.K W0 te σ2 H3 fun y H4 => ∃ acc, H4 p = some (.lst acc) ∧ acc.length < sizeLine ∧ Nx (upd H4 p (.lst (acc ++ [y]))) else Nx H3) := by
  obtain ⟨G, Y, wk, hG, hY⟩ := wk
  refine lc_it wk (fun i H' => ∃ S' acc accD, H' p = some (.lst acc) ∧ RpL (K.more p) S' H' accD acc ∧ accD.length ≤ i ∧ Step S H S' H' ∧ RS (K.more p) S' H' ∧ (∀ d v, Rp K S H d v → Rp (K.more p) S' H' d v) ∧ lcGo g tt te (wipeD env vs) (ds.drop i) S' fun ys S2 => QQ (accD ++ ys) S2)
    ⟨S, [], [], upd_same, .nil, Nat.le_refl _, fun b o e n => ⟨n, by rw [upd_ne (ne_of_none e hp)]; exact e⟩, rs.hide hp, fun d v r => Rp.hide hp d v r, h⟩ (fun i H' _ ⟨S', _, _, _, _, _, st, _⟩ => hG S' H' st) (fun i x H' H'' hi hPv y => ?_) fun H' hPv => ?_
  · obtain ⟨S', acc, accD, e1, rl, la, st, rs', tr, q⟩ := hPv
    obtain ⟨a2, d, ed, rd⟩ := hY (K.more p) i S' H' x H'' rfl st rs' tr hi y
    have e0 : ds.drop i = d :: ds.drop (i + 1) := by
      rw [List.drop_eq_getElem_cons hi]
      congr 1
      rw [List.getElem?_eq_getElem hi] at ed
      exact Option.some.inj ed
    rw [e0] at q
    unfold lcGo at q
    split at q <;> first | exact q.elim | skip
    rename_i env1 ee
    have re' : RE (K.more p) S' H' env σ := ⟨re.len, fun j d e => by
      obtain ⟨v, e2, r⟩ := re.at_ j d e
      exact ⟨v, e2, tr d v r⟩⟩
    have np : S' p = none := (rs'.hid p (.inr rfl)).1
    refine ⟨fun b => K.Z b ∨ b = p, wipeD env vs, S', d, env1, (re'.wipe vs).step a2.st rs', a2.rs, rd, ee, fun σ2 r2 w2 => ⟨?_, ?_⟩⟩
    · rw [w2 vs hgv]
      have z : ∀ (σ : L2.St) (vs : List Nat), wipe (wipe σ vs) vs = wipe σ vs := by
        intro σ vs
        have z2 : ∀ us : List Nat, (∀ u ∈ us, u ∈ vs) → wipe (wipe σ us) vs = wipe σ vs := by
          intro us
          induction us with
          | nil => intro _; rfl
          | cons u us ih =>
            intro hu
            show wipe ((wipe σ us).set u none) vs = _
            rw [wipe_in (hu u (by simp)), ih fun v hv => hu v (by simp [hv])]
        exact z2 vs fun _ h => h
      exact z σ vs
    refine LT.of (K := K.more p) ht r2 a2.rs q (fun b S3 H3 q3 a3 => ?_) fun x S3 c dx H3 q3 _ _ => q3
    have a23 := a2.trans a3
    have e3 : H3 p = some (.lst acc) := (a23.st p _ e1 np).2
    have st3 : Step S H S3 H3 := st.trans a23.st
    cases b with
    | false =>
      refine iteF ⟨S3, acc, accD, e3, RpL.step a23.st rs' _ _ rl, Nat.le_succ_of_le la, st3, a3.rs, fun d v r => Rp.step a23.st rs' _ _ (tr d v r), q3⟩
    | true =>
      refine iteT (LE.of (K := K.more p) he (r2.step a3.st a2.rs) a3.rs q3 (fun yD S4 yv H4 q4 a4 r4 => ?_) fun x S4 c dx H4 q4 _ _ => q4)
      have a24 := a23.trans a4
      have e4 : H4 p = some (.lst acc) := (a24.st p _ e1 np).2
      have lacc : acc.length ≤ i := by rw [← rl.length]; exact la
      refine ⟨acc, e4, by omega, S4, acc ++ [yv], accD ++ [yD], upd_same, ?_, ?_, ?_, a4.rs.grow e4, fun d v r => Rp.grow e4 _ _ (Rp.step a24.st rs' _ _ (tr d v r)), ?_⟩
      · exact RpL.grow e4 _ _ ((RpL.step a24.st rs' _ _ rl).append (.cons r4 .nil))
      · rw [List.length_append, List.length_singleton]; omega
      · intro b o e n
        obtain ⟨n1, h1⟩ := (st.trans a24.st) b o e n
        exact ⟨n1, by rw [upd_ne (ne_of_none e hp)]; exact h1⟩
      · simpa only [List.append_assoc, List.singleton_append] using q4
  · obtain ⟨S', acc, accD, e1, rl, la, st, rs', tr, q⟩ := hPv
    rw [List.drop_length] at q
    unfold lcGo at q
    rw [List.append_nil] at q
    exact hd S' H' acc accD q st rs' e1 rl
section
variable {P : Program} {w : World} {K : PySem.W.Frag} {mg : Str → Option Value} {base : Heap} {N : List Str} {sc : Scope} {vw : Vw} {k : Nat} {X : Cx} {W : WX}
variable {elt tg iter : Expr} {ifs : List Expr} {scope : Scope} {pos : Pos} {ti : TAd} {g : Tg} {tt : TTd} {te : TEd} {own : List (Str × Nat)} {vw2 : Vw}
/-- the block's own context -/
theorem JC.blk (c : JC P w K mg base N sc vw k X W) (s2 : Sc N (relS scope sc) vw2) (hk : scope.kind = .function) (s : Shared) (H : Hp) (C : Addr) (cl : List (Str × Addr)) (fp : List Addr) : JC P w K mg base N (relS scope sc) vw2 k (X.blk s H scope (compEnvC scope cl C X.env) fp) W0 where
  prog := c.prog
  ww := c.ww
  kk := c.kk
  gg := c.gg
  bb := c.bb
  nn := c.nn
  ss := by rw [← c.ss]; rfl
  sC := s2
  nd := c.nd
  calm := c.calm
  room := c.room
  tk := takes0
  kd := hk
theorem lcOf (hi : JI X W tg iter ti) (ht : MoE tt) (he : MoE te) (hgv : ∀ i ∈ tgS g, i ∈ own.map (·.2)) {σ : L2.St} {H : Hp} {Q : VK} (h : LE X.K W (dLc ti g tt te (own.map (·.2))) σ H Q) : tLc (LI X.K W ti) (LG X.K g) (LT X.K W0 tt) (LE X.K W0 te) (own.map (·.2)) σ H Q := by
  obtain ⟨Z, env, S, re, rs, q⟩ := h
  refine LI.of hi.mo re rs q (fun ds S1 J H1 q1 a1 wk => ?_) fun x S1 c dx H1 q1 a1 r1 => q1 c dx H1 a1 r1
  intro p hp
  refine lc_run (K := ⟨X.K, Z⟩) ht he hgv (re.step a1.st rs) a1.rs wk hp q1.1 q1.2 fun S' H' acc accD qq st rs' e rl => ?_
  exact qq _ H' (a1.trans ⟨st, rs'.show_⟩) (Rp.made rs' e (a1.rs.nz hp) rl)
theorem je_lc (c : JC P w K mg base N sc vw k X W) (ok : blkC N sc scope own = true) (s2 : Sc N (relS scope sc) vw2) (hgv : ∀ i ∈ tgS g, i ∈ own.map (·.2)) (hi : JI X W tg iter ti)
    (hg : ∀ X2, JC P w K mg base N (relS scope sc) vw2 k X2 W0 → JG X2 tg g) (ht : ∀ X2, JC P w K mg base N (relS scope sc) vw2 k X2 W0 → JTs X2 W0 ifs tt) (he : ∀ X2, JC P w K mg base N (relS scope sc) vw2 k X2 W0 → JE X2 W0 elt te) (mt : MoE tt) (me : MoE te)
    (hs : ∀ x, foldedSetIterable iter X.env x = pure x := by intro _; rfl) : JE X W (.ListComp elt [⟨tg, iter, ifs, 0⟩] scope pos) (dLc ti g tt te (own.map (·.2))) := by
  have bo : BlkOk X.N X.env.scope scope own := by rw [c.nn, c.ss]; exact blkOk_by ok
  have jc := fun s H C cl fp => c.blk s2 bo.kind s H C cl fp
  refine ⟨PE.imp (pe_lc (own := own) c.calm (by rw [c.nn]; exact c.nd) hi.pi bo (fun s H C cl fp => (hg _ (jc s H C cl fp)).pg) (fun s H C cl fp => (ht _ (jc s H C cl fp)).pt) (fun s H C cl fp => (he _ (jc s H C cl fp)).pe) hs) fun σ H Q h => lcOf hi mt me hgv h, moLc hi.mo mt me⟩
/-- y = [..] -/
theorem js_setLc {y : Str} {py spos : Pos} (c : JC P w K mg base N sc vw k X W) (j : Nat) (hj : N[j]? = some y) (hyl : sc.names.lookup y = some .local) (hl : (py.line == pos.line) = true) (hny : (scope.names.any fun (n, k) => n == y && (k == .local || k == .cell)) = false)
    (ok : blkC N sc scope own = true) (s2 : Sc N (relS scope sc) vw2) (hgv : ∀ i ∈ tgS g, i ∈ own.map (·.2)) (hi : JI X W tg iter ti)
    (hg : ∀ X2, JC P w K mg base N (relS scope sc) vw2 k X2 W0 → JG X2 tg g) (ht : ∀ X2, JC P w K mg base N (relS scope sc) vw2 k X2 W0 → JTs X2 W0 ifs tt) (he : ∀ X2, JC P w K mg base N (relS scope sc) vw2 k X2 W0 → JE X2 W0 elt te) (mt : MoE tt) (me : MoE te)
    (hs : ∀ x, foldedSetIterable iter X.env x = pure x := by intro _; rfl) : JS X W (.Assign [.Name y py] (.ListComp elt [⟨tg, iter, ifs, 0⟩] scope pos) spos) (sAsg (dLc ti g tt te (own.map (·.2))) (.nm j)) := by
  have bo : BlkOk X.N X.env.scope scope own := by rw [c.nn, c.ss]; exact blkOk_by ok
  have jc := fun s H C cl fp => c.blk s2 bo.kind s H C cl fp
  refine ⟨PS.imp (ps_setLc (i := j) (own := own) (te := LE X.K W0 te) (tt := LT X.K W0 tt) (g := LG X.K g) (wi := LI X.K W ti) c.calm (by rw [c.nn]; exact c.nd) (by rw [c.nn]; exact hj) (by rw [c.ss]; exact hyl) (sw_true c.kd (by rw [c.ss]; exact hyl) hl hny) hi.pi bo (fun s H C cl fp => (hg _ (jc s H C cl fp)).pg) (fun s H C cl fp => (ht _ (jc s H C cl fp)).pt) (fun s H C cl fp => (he _ (jc s H C cl fp)).pe) hs) fun M σ H h => ?_, moAsg (moLc hi.mo mt me)⟩
  obtain ⟨Z, env, S, re, rs, q⟩ := h
  refine lcOf (own := own) (W := W) hi mt me hgv (LE.of (K := ⟨X.K, Z⟩) (moLc hi.mo mt me) re rs q (fun d S1 v H1 q1 a1 r1 => ?_) fun x S1 c dx H1 q1 a1 r1 => exS re rs q1 a1 r1)
  unfold asgT at q1
  exact q1 _ H1 a1 ((re.step a1.st rs).set r1 j)
end

/-! ### methods of lists that are grown -/
abbrev GM := Addr → List D → Sto → DK → Prop
def dLm (f : GM) (to : TEd) (ta : TAd) : TEd := fun env S Q E => to env S (fun o S1 => match o with
  | .ref a => (S1 a).isSome = true ∧ ta env S1 (fun ds S2 => f a ds S2 Q) E
  | _ => False) E
structure MtD (X : Cx) (id : String) (f : GM) : Prop where
  mo : ∀ a ds S (Q Q' : DK), (∀ d S, Q d S → Q' d S) → f a ds S Q → f a ds S Q'
  run : MtR X id fun x vs H Q => ∃ Z S a ds, x = .ref a ∧ RS ⟨X.K, Z⟩ S H ∧ RpL ⟨X.K, Z⟩ S H ds vs ∧ f a ds S (PQ ⟨X.K, Z⟩ S H Q)
theorem moLm {f : GM} {to : TEd} {ta : TAd} (hf : ∀ a ds S (Q Q' : DK), (∀ d S, Q d S → Q' d S) → f a ds S Q → f a ds S Q') (h1 : MoE to) (h2 : MoE ta) : MoE (dLm f to ta) := fun env S Q Q' E E' h he q => h1 _ _ _ _ _ _ (fun o S1 q1 => by
  cases o <;> first | exact q1 | exact ⟨q1.1, h2 _ _ _ _ _ _ (fun ds S2 q2 => hf _ _ _ _ _ h q2) he q1.2⟩) he q
section
variable {X : Cx} {W : WX} {o e : Expr} {es : List Expr} {to : TEd} {ta : TAd} {name : Str} {apos cpos : Pos} {id : String} {f : GM}
theorem je_lm (slot : Slot "list" name id) (hty : typeOf (.builtin id) = pure (.type "method_descriptor")) (hm : MtD X id f) (ho : JE X W o to) (ha : JA X W (e :: es) ta)
    (hbase : attributeBase o name X.env (eval o X.env) = eval o X.env := by rfl)
    (hfew : ((backTo cpos (starEach (e :: es) X.env)).all (fun x => !x.1) && (backToKw cpos (keywordEach [] X.env)).all (fun x => x.1.isSome) && decide ((e :: es).length + ([] : List Keyword).length + (if ([] : List Keyword).isEmpty then 0 else 1) < 30)) = true := by rfl)
    (hline : (apos.endLine == cpos.line) = true := by rfl) (hs : starEach (e :: es) X.env = (false, eval e X.env) :: starEach es X.env := by rfl) (hplain : (backTo cpos (starEach es X.env)).any (·.1) = false := by rfl) :
    JE X W (.Call (.Attribute o name apos) (e :: es) [] cpos) (dLm f to ta) := by
  refine ⟨PE.imp (pe_bm PySem.F.plainAttrs_list slot hty hm.run ho.pe ha.pa hbase hfew hline hs hplain) fun σ H Q h => ?_, moLm hm.mo ho.mo ha.mo⟩
  obtain ⟨Z, env, S, re, rs, q⟩ := h
  refine LE.of ho.mo re rs q (fun d S1 v H1 q1 a1 r1 => ?_) fun x S1 c dx H1 q1 a1 r1 => q1 c dx H1 a1 r1
  cases d <;> first | exact q1.elim | skip
  rename_i a
  cases r1
  obtain ⟨ds, e1⟩ := Option.isSome_iff_exists.mp q1.1
  obtain ⟨vs, hl, _⟩ := a1.rs.at_ a ds e1
  refine ⟨.inl ⟨rfl, vs, SqL.of hl⟩, LA.of ha.mo (re.step a1.st rs) a1.rs q1.2 (fun ds2 S2 vs2 H2 q2 a2 r2 => ?_) fun x S2 c dx H2 q2 a2 r2 => q2 c dx H2 (a1.trans a2) r2⟩
  exact ⟨Z, S2, a, ds2, rfl, a2.rs, r2, hm.mo _ _ _ _ _ (fun d S3 q3 => PQ.after (a1.trans a2) q3) q2⟩
def gApp : GM := fun a ds S Q => match ds with
  | [d] => match S a with
    | some xs => xs.length < sizeLine ∧ Q .non (sup S a (xs ++ [d]))
    | none => False
  | _ => False
theorem md_append : MtD X "list.append" gApp := by
  refine ⟨fun a ds S Q Q' h q => ?_, fun pins s σ H x xs v us Q I rx rv h => ?_⟩
  · unfold gApp at q ⊢
    split at q <;> first | exact q.elim | skip
    split at q <;> first | exact q.elim | exact ⟨q.1, h _ _ q.2⟩
  · obtain ⟨Z, S, a, ds, rfl, rs, rl, q⟩ := h
    unfold gApp at q
    split at q <;> first | exact q.elim | skip
    split at q <;> first | exact q.elim | skip
    rename_i d _ ys e
    obtain ⟨y, rfl, r1⟩ := rl.one
    obtain ⟨vs, hl, rv2⟩ := rs.at_ a ys e
    refine mt_append pins s σ H _ _ v us Q I rx rv ⟨a, vs, y, rfl, rfl, hl, by rw [← rv2.length]; exact q.1, ?_⟩
    exact q.2 _ _ (Rp.putR rs e (rv2.append (.cons r1 .nil))) .non
theorem je_append (ho : JE X W o to) (ha : JA X W [e] ta) (hbase : attributeBase o "append" X.env (eval o X.env) = eval o X.env := by rfl) (hline : (apos.endLine == cpos.line) = true := by rfl) (hs : starEach [e] X.env = (false, eval e X.env) :: starEach [] X.env := by rfl)
    (hfew : ((backTo cpos (starEach [e] X.env)).all (fun x => !x.1) && (backToKw cpos (keywordEach [] X.env)).all (fun x => x.1.isSome) && decide ([e].length + ([] : List Keyword).length + (if ([] : List Keyword).isEmpty then 0 else 1) < 30)) = true := by rfl) : JE X W (.Call (.Attribute o "append" apos) [e] [] cpos) (dLm gApp to ta) :=
  je_lm PySem.F.slot_list_append PySem.F.type_list_append md_append ho ha hbase hfew hline hs rfl
end

/-! ### raise, try -/
def sRaise (x : Str) : TSd := fun env S N => N.ex ⟨x, []⟩ env S
theorem moRaise {x : Str} : MoS (sRaise x) := fun env S A B l h => l.ex _ _ _ h
theorem js_raise {X : Cx} {W : WX} {e : Expr} {x : Str} {C : Addr} {pos : Pos} (hc : X.calm = true) (tk : Takes X W) (hC : PySem.W.nsIn X.K mainGlobals x = some (some (.ref C))) (he : PMk X e (fun _ H Q => Q (.ref C) none H)) : JS X W (.Raise (some e) none pos) (sRaise x) := by
  refine ⟨PS.imp (ps_raise hc tk he) fun N σ H h => ?_, moRaise⟩
  obtain ⟨Z, env, S, re, rs, q⟩ := h
  exact q _ none σ H (.refl rs) re ⟨⟨C, hC, rfl⟩, rfl⟩
/-- a try whose body raises nothing -/
def sThru (t u : TSd) : TSd := fun env S N => t env S { N with nx := fun e s => u e s N, ex := fun _ _ _ => False }
theorem moThru {t u : TSd} (ht : MoS t) (hu : MoS u) : MoS (sThru t u) := fun env S A B l h => ht _ _ { A with nx := fun e s => u e s A, ex := fun _ _ _ => False } _ ⟨fun e s q => hu _ _ _ _ l q, l.rt, l.bk, l.ct, fun _ _ _ z => z⟩ h
end Bl

namespace Bl
open PySem PySem.Spec PyProof.Rows L2

/-! ### a def -/
/-- what the body makes of the arguments: n parameters, l names -/
def fnD (n l : Nat) (tb : TSd) : TFd := fun ds S Q E => ds.length = n ∧ tb (ds.map some ++ List.replicate (l - n) none) S ⟨fun _ S1 => Q .non S1, Q, fun _ _ => False, fun _ _ => False, fun x _ S1 => E x S1⟩
theorem moFn {n l : Nat} {tb : TSd} (h : MoS tb) : MoF (fnD n l tb) := fun ds S Q Q' E E' hq he q => ⟨q.1, h _ _ ⟨fun _ S1 => Q .non S1, Q, fun _ _ => False, fun _ _ => False, fun x _ S1 => E x S1⟩ _ ⟨fun _ _ z => hq _ _ z, hq, fun _ _ z => z, fun _ _ z => z, fun x _ S z => he x S z⟩ q.2⟩
section
variable {P : Program} {w : World} {K : PySem.W.Frag} {mg : Str → Option Value} {base : Heap} {N ps : List Str} {sc : Scope} {vw : Vw} {k : Nat}
/-- some context -/
theorem JD.some (sC : Sc N sc vw) (nd : N.Nodup) (hk : sc.kind = .function) (hr : Room k callerA) : ∃ X W, JD P w K mg base N sc vw k X W := by
  refine ⟨⟨P, w, K, mg, base, callerA, N, {}, fun _ => none, envOfC "" sc 0 0 .none, [], [envOfC "" sc 0 0 .none], [], fun _ => true, true, [], fun _ _ => False⟩, W0, ?_⟩
  exact { prog := rfl, ww := rfl, kk := rfl, gg := rfl, bb := rfl, nn := rfl, ss := rfl, sC := sC, nd := nd, calm := rfl, room := hr, tk := takes0, kd := hk, po := .never, fn := fun _ => rfl, hs := rfl, hf := rfl }
/-- a def's body keeps the promise -/
theorem fnOk_of {x qual : Str} {params : Arguments} {body : List Stmt} {scope : Scope} {f : Addr} {oc dV kV doc pm cdv ct : Value} {od an : Option Addr} {osl : Array (Option Value)} {tb : TSd} (lk : K.lookup f = some ⟨oc, od, .func (PySem.W.fnOf x qual params body scope dV kV doc pm an cdv ct), osl⟩) (hcd : PySem.W.codeIn K cdv qual = true)
    (S : FnScope N ps scope) (sC : Sc N scope vw) (h : ∀ X W, JD P w K mg base N scope vw k X W → JB X W body tb) :
    FnOk P w K mg base (L2.CX P w) (k + 1) f (PySem.W.fnOf x qual params body scope dV kV doc pm an cdv ct) ps (LSp K ps.length (fnD ps.length N.length tb)) := by
  refine fn_of lk hcd S (fun vs H Q E h => ?_) fun A outer s H vs Q E hr hsp => ?_
  · obtain ⟨Z, ds, S, hl, r, _⟩ := h
    rw [← r.length]
    exact hl
  · obtain ⟨Z, ds, S0, hl, r, rs, _, q⟩ := hsp
    have jd : JD P w K mg base N scope vw k (cxOf (L2.CX P w) P w K mg base N qual scope f cdv A outer s H E) fun cls d _ H => E cls d H :=
      { prog := rfl, ww := rfl, kk := rfl, gg := rfl, bb := rfl, nn := rfl, ss := rfl, sC := sC, nd := S.nd, calm := rfl, room := hr, tk := takes_of rfl rfl rfl rfl, kd := S.kind, po := passes_of rfl, fn := fun _ => rfl, hs := rfl, hf := rfl }
    have jb := h _ _ jd
    refine ⟨_, jb.ps, LS.of (K := ⟨K, Z⟩) jb.mo (env := ds.map some ++ List.replicate (N.length - ps.length) none) ?_ rs q ⟨fun _ S1 z σ' H' a _ => z _ H' a .non, fun d S1 z v H' a r => z v H' a r, fun _ _ z => z.elim, fun _ _ z => z.elim, fun x _ S1 z c dx σ' H' a _ rx => z c dx H' a rx⟩⟩
    have z := RE.start r (N.length - ps.length)
    unfold L2.start
    rw [← r.length, hl]
    exact z
theorem moS_of {scope : Scope} {body : List Stmt} {tb : TSd} (S : FnScope N ps scope) (sC : Sc N scope vw) (hr : Room k callerA) (h : ∀ X W, JD P w K mg base N scope vw k X W → JB X W body tb) : MoS tb := by
  obtain ⟨X, W, jd⟩ := JD.some (P := P) (w := w) (K := K) (mg := mg) (base := base) sC S.nd S.kind hr
  exact (h X W jd).mo
end

/-! ### the law -/
/-- a list of at most n ints is handed in, True comes out -/
def spLaw (K : PySem.W.Frag) (n : Nat) : Sp := fun vs H Q _ => ∃ (a : Addr) (ns : List Int), vs = [.ref a] ∧ SqL K H a (ns.map V.int) ∧ ns.length ≤ n ∧ Only H ∧ ∀ H', Q (.bl true) H'
theorem law_sp {K : PySem.W.Frag} {n : Nat} {m : TFd} (mo : MoF m) (h : ∀ ns : List Int, ns.length ≤ n → m [.lst (ns.map D.int)] (fun _ => none) (fun d _ => d = .bl true) fun _ _ => False) : ∀ vs H Q E, spLaw K n vs H Q E → LSp K 1 m vs H Q E := by
  intro vs H Q E hh
  obtain ⟨a, ns, rfl, hS, hl, ho, q⟩ := hh
  have r : Rp ⟨K, fun _ => False⟩ (fun _ => none) H (.lst (ns.map D.int)) (.ref a) := by
    rcases hS with hS | hS
    · exact .lst hS rfl (fun z => z) RpL.ints
    · exact .lstK hS RpL.ints
  refine ⟨fun _ => False, [.lst (ns.map D.int)], fun _ => none, rfl, .cons r .nil, ⟨fun _ _ e => (nomatch e), fun _ hb => False.elim hb⟩, mo _ _ _ _ _ _ (fun d S1 e v H' a2 r2 => ?_) (fun x S1 z => z.elim) (h ns hl)⟩
  subst e
  cases r2
  exact q H'
end Bl

namespace Bl
open PySem PySem.Spec PyProof.Rows L2

/-! ### n.bit_length() -/
def dBits (t : TEd) : TEd := fun env S Q E => t env S (fun d S' => match d with | .int i => Q (.int (Builtin.Int.intBits i : Nat)) S' | _ => False) E
theorem moBits {t : TEd} (h : MoE t) : MoE (dBits t) := fun env S Q Q' E E' hq he q => h _ _ _ _ _ _ (fun d S1 q1 => by
  cases d <;> first | exact hq _ _ q1 | exact q1) he q
section
variable {X : Cx} {W : WX} {o : Expr} {to : TEd} {apos pos : Pos}
theorem je_bits (ho : JE X W o to) (hbase : attributeBase o "bit_length" X.env (eval o X.env) = eval o X.env := by rfl) (hline : (apos.endLine == pos.line) = true := by rfl) : JE X W (.Call (.Attribute o "bit_length" apos) [] [] pos) (dBits to) := by
  refine ⟨PE.imp (pe_bits ho.pe hbase hline) fun σ H Q h => ?_, moBits ho.mo⟩
  obtain ⟨Z, env, S, re, rs, q⟩ := h
  refine LE.of ho.mo re rs q (fun d S1 x H1 q1 a1 r1 => ?_) fun x S1 c dx H1 q1 a1 r1 => q1 c dx H1 a1 r1
  cases d <;> first | exact q1.elim | skip
  cases r1
  exact ⟨_, rfl, q1 _ H1 a1 (.int _)⟩
end

/-! ### sorted, of whole numbers -/
def intsOf : List D → Option (List Int)
  | [] => some []
  | .int i :: ds => (intsOf ds).map (i :: ·)
  | _ => none
/-! ### a op= b -/
def fIadd : F2 := fun x y S Q => match x, y with
  | .int i, .int j => Q (.int (i + j)) S
  | .str i, .str j => i.length + j.length ≤ sizeLine ∧ Q (.str (i ++ j)) S
  | _, _ => False
section
variable {X : Cx}
end

/-! ### a try that is run through -/
section
variable {P : Program} {w : World} {K : PySem.W.Frag} {mg : Str → Option Value} {base : Heap} {N : List Str} {sc : Scope} {vw : Vw} {k : Nat} {X : Cx} {W : WX}
theorem JD.nox (d : JD P w K mg base N sc vw k X W) : JD P w K mg base N sc vw k X.nox W0 :=
  { prog := d.prog, ww := d.ww, kk := d.kk, gg := d.gg, bb := d.bb, nn := d.nn, ss := d.ss, sC := d.sC, nd := d.nd, calm := d.calm, room := d.room, tk := takes0, kd := d.kd, po := .never, fn := d.fn, hs := d.hs, hf := d.hf }
theorem js_thru {body : List Stmt} {h₀ : ExceptHandler} {hs : List ExceptHandler} {t : TSd} {pos : Pos} (d : JD P w K mg base N sc vw k X W) (hb : ∀ X2 W2, JD P w K mg base N sc vw k X2 W2 → JB X2 W2 body t) : JS X W (.Try body (h₀ :: hs) [] [] pos) (sThru t sNx) := by
  have jb := hb _ _ d.nox
  refine ⟨PS.imp (ps_try_thru0 jb.ps) fun N σ H h => ?_, moThru jb.mo moNx⟩
  obtain ⟨Z, env, S, re, rs, q⟩ := h
  exact LS.of (K := ⟨X.K, Z⟩) jb.mo re rs q ⟨fun _ _ z => z, fun _ _ z => z, fun _ _ z => z, fun _ _ z => z, fun _ _ _ z => z.elim⟩
end

/-! ### constants of the module -/
/-! ### defs with defaults -/
section
variable {P : Program} {w : World} {K : PySem.W.Frag} {mg : Str → Option Value} {base : Heap} {N ps : List Str} {vw : Vw} {k : Nat}
end
end Bl

namespace Bl
open PySem PySem.Spec PyProof.Rows L2

/-! ### pairs stored from the right -/
theorem blk_fn {env : Env} (h : env.scope.kind = .function) : env.blockKind = .function := by unfold Env.blockKind; rw [h]; rfl
def isStar : Expr → Bool
  | .Starred .. => true
  | _ => false
def swNm (env : Env) (line : Nat) : Expr → Option Str
  | .Name id pos => if env.kindOf id == some .local && pos.line == line then some id else none
  | _ => none
theorem sw_eq {ts vs : List Expr} {kt k2 : Nat} {pt pt2 : Pos} {env : Env} (hk : env.scope.kind = .function) (hl : ts.length = 2 ∨ ts.length = 3) (hv : vs.length = ts.length) (hs : vs.any isStar = false) :
    swappedStores [.Tuple ts kt pt] (.Tuple vs k2 pt2) env = (do
      let names := ts.filterMap (swNm env ((ts.head?.map (·.pos.line)).getD 0))
      if names.length != ts.length || names.eraseDups.length != names.length then return none
      if vs.all (foldedForSure 8) then return none
      if vs.all (constantsAlone 8) then unsupported "assign.tuple-of-constant-expressions:order-of-the-stores"
      return some names) := by
  have e1 : (!(ts.length == 2 || ts.length == 3) || vs.length != ts.length || env.blockKind != .function) = false := by
    rw [blk_fn hk, hv]
    rcases hl with h | h <;> rw [h] <;> rfl
  unfold swappedStores
  show (if (!(ts.length == 2 || ts.length == 3) || vs.length != ts.length || env.blockKind != .function) = true then (pure none : Sem (Option (List Str))) else if vs.any isStar = true then pure none else _) = _
  rw [e1, hs]
  rfl
theorem sw2 {x y : Str} {p q : Expr} {px py pt pt2 : Pos} {kt k2 : Nat} {env : Env} (hk : env.scope.kind = .function) (hx : env.scope.names.lookup x = some .local) (hy : env.scope.names.lookup y = some .local) (hl : (py.line == px.line) = true) (hne : (y == x) = false)
    (hs : [p, q].any isStar = false) (hf : [p, q].all (foldedForSure 8) = false) (hc : [p, q].all (constantsAlone 8) = false) : swappedStores [.Tuple [.Name x px, .Name y py] kt pt] (.Tuple [p, q] k2 pt2) env = pure (some [x, y]) := by
  rw [sw_eq (ts := [.Name x px, .Name y py]) (vs := [p, q]) hk (.inl rfl) rfl hs]
  have kx : env.kindOf x = some .local := hx
  have ky : env.kindOf y = some .local := hy
  have e1 : (some NameKind.local == some NameKind.local) = true := rfl
  have e : [Expr.Name x px, .Name y py].filterMap (swNm env px.line) = [x, y] := by
    simp only [List.filterMap_cons, List.filterMap_nil, swNm, kx, ky, e1, hl, beq_self_eq_true, Bool.and_self, if_true]
  show (do
      let names := [Expr.Name x px, .Name y py].filterMap (swNm env px.line)
      if names.length != 2 || names.eraseDups.length != names.length then return none
      if [p, q].all (foldedForSure 8) then return none
      if [p, q].all (constantsAlone 8) then unsupported "assign.tuple-of-constant-expressions:order-of-the-stores"
      return some names) = _
  rw [e, hf, hc]
  have e5 : [x, y].eraseDups.length = 2 := by simp [List.eraseDups_cons, hne]
  simp only [e5]
  rfl
section
variable {P : Program} {w : World} {K : PySem.W.Frag} {mg : Str → Option Value} {base : Heap} {N ps : List Str} {vw : Vw} {k : Nat} {X : Cx} {W : WX}
/-! ### defs by their data -/
/-- no defaults by places, called by places -/
theorem jf_mkN {x qual : Str} {params : Arguments} {body : List Stmt} {scope : Scope} {kws : List (Str × V)} {f : Addr} {fd : FuncData} {tb : TSd} (F : FunD K x qual params body scope [] kws f fd) (S : FnScope N ps scope) (sC : Sc N scope vw) (mgx : mg x = some (.ref f)) (hr : Room k callerA)
    (hb : ∀ (kV doc pm : Value) (an : Option Addr) (cdv ct : Value) (us : List Value), us.length = ps.length → bindArgs (PySem.W.fnOf x qual params body scope .none kV doc pm an cdv ct) ⟨us, []⟩ = pure (ps.zip us))
    (h : ∀ X W, JD P w K mg base N scope vw k X W → JB X W body tb) : JF P w K mg base x ps.length [] (fun ds _ => ds) (k + 1) (fnD ps.length N.length tb) := by
  obtain ⟨oc, od, dV, kV, doc, pm, an, cdv, ct, osl, rfl, lk, hcd, hD, _⟩ := F.ex
  rcases hD with ⟨_, rfl⟩ | ⟨e, _⟩
  · refine ⟨⟨f, _, ps, fun us _ => us, fun vs _ => vs, mgx, F.kp, fnOk_of lk hcd S sC h, ⟨fun s us ws _ l1 l2 => ?_, fun r _ => r⟩, fun Z S H ds zs vs ws r _ l1 _ => ⟨r, l1⟩⟩, moFn (moS_of S sC hr h)⟩
    exact .of_eq (hb kV doc pm an cdv ct us l1)
  · exact absurd rfl e
/-- no defaults by places, called by places and all keywords -/
theorem jf_mkW {x qual : Str} {params : Arguments} {body : List Stmt} {scope : Scope} {kws : List (Str × V)} {f : Addr} {fd : FuncData} {tb : TSd} (np : Nat) (ks : List Str) (F : FunD K x qual params body scope [] kws f fd) (S : FnScope N ps scope) (sC : Sc N scope vw) (mgx : mg x = some (.ref f)) (hr : Room k callerA)
    (g : {α : Type} → List α → List α → List α) (hg : ∀ {us : List D} {ws : List D}, us.length = np → ws.length = ks.length → (g us ws).length = ps.length)
    (hrel : ∀ {Z S H} {ds zs : List D} {vs ws : List V}, RpL ⟨K, Z⟩ S H ds vs → RpL ⟨K, Z⟩ S H zs ws → ds.length = np → zs.length = ks.length → RpL ⟨K, Z⟩ S H (g ds zs) (g vs ws))
    (hrel2 : ∀ {vs zs : List V} {us ws : List Value}, Vals vs us → Vals zs ws → vs.length = np → zs.length = ks.length → Vals (g vs zs) (g us ws))
    (hb : ∀ (kV doc pm : Value) (an : Option Addr) (cdv ct : Value) (us ws : List Value), us.length = np → ws.length = ks.length → bindArgs (PySem.W.fnOf x qual params body scope .none kV doc pm an cdv ct) ⟨us, ks.zip ws⟩ = pure (ps.zip (g us ws)))
    (h : ∀ X W, JD P w K mg base N scope vw k X W → JB X W body tb) : JF P w K mg base x np ks (fun a b => g a b) (k + 1) (fnD ps.length N.length tb) := by
  obtain ⟨oc, od, dV, kV, doc, pm, an, cdv, ct, osl, rfl, lk, hcd, hD, _⟩ := F.ex
  rcases hD with ⟨_, rfl⟩ | ⟨e, _⟩
  · refine ⟨⟨f, _, ps, fun us ws => if us.length = np ∧ ws.length = ks.length then g us ws else us ++ ws, fun vs ws => if vs.length = np ∧ ws.length = ks.length then g vs ws else vs ++ ws, mgx, F.kp, fnOk_of lk hcd S sC h, ⟨fun s us ws _ l1 l2 => ?_, fun {vs us zs ws} r r2 => ?_⟩, fun Z S H ds zs vs ws r r2 l1 l2 => ⟨?_, hg l1 l2⟩⟩, moFn (moS_of S sC hr h)⟩
    · rw [if_pos ⟨l1, l2⟩]
      exact .of_eq (hb kV doc pm an cdv ct us ws l1 l2)
    · by_cases hh : vs.length = np ∧ zs.length = ks.length
      · rw [if_pos hh, if_pos ⟨by rw [← r.length]; exact hh.1, by rw [← r2.length]; exact hh.2⟩]
        exact hrel2 r r2 hh.1 hh.2
      · rw [if_neg hh, if_neg fun z => hh ⟨by rw [r.length]; exact z.1, by rw [r2.length]; exact z.2⟩]
        exact r.append r2
    · show RpL ⟨K, Z⟩ S H (g ds zs) (if vs.length = np ∧ ws.length = ks.length then g vs ws else vs ++ ws)
      rw [if_pos ⟨by rw [← r.length]; exact l1, by rw [← r2.length]; exact l2⟩]
      exact hrel r r2 l1 l2
  · exact absurd rfl e
/-- with defaults by places; of np values the defaults behind the first j fill up -/
theorem jf_mkF {x qual : Str} {params : Arguments} {body : List Stmt} {scope : Scope} {dvs : List V} {kws : List (Str × V)} {f : Addr} {fd : FuncData} {tb : TSd} (np j : Nat) (dds : List D) (F : FunD K x qual params body scope dvs kws f fd) (S : FnScope N ps scope) (sC : Sc N scope vw) (mgx : mg x = some (.ref f)) (hr : Room k callerA)
    (hd : dvs ≠ []) (hn : np + (dvs.length - j) = ps.length) (hdd : ∀ Z S H, RpL ⟨K, Z⟩ S H dds (dvs.drop j))
    (hb : ∀ (T : Addr) (kV doc pm : Value) (an : Option Addr) (cdv ct : Value) (us its : List Value), us.length = np → its.length = dvs.length →
      ∃ k, bindArgs (PySem.W.fnOf x qual params body scope (.ref T) kV doc pm an cdv ct) ⟨us, []⟩ = seqItems? (.ref T) >>= k ∧ k (some its.toArray) = pure (ps.zip (us ++ its.drop j)))
    (h : ∀ X W, JD P w K mg base N scope vw k X W → JB X W body tb) : JF P w K mg base x np [] (fun ds _ => ds ++ dds) (k + 1) (fnD ps.length N.length tb) := by
  obtain ⟨oc, od, dV, kV, doc, pm, an, cdv, ct, osl, rfl, lk, hcd, hD, _⟩ := F.ex
  rcases hD with ⟨e, _⟩ | ⟨_, T, o, its, m, rfl, lT, oT, rT⟩
  · exact absurd e hd
  · refine ⟨⟨f, _, ps, fun us _ => us ++ its.drop j, fun vs _ => vs ++ dvs.drop j, mgx, F.kp, fnOk_of lk hcd S sC h, ⟨fun s us ws X l1 l2 => ?_, fun {vs us zs ws} r1 r2 => r1.append (rT.drop j)⟩, fun Z S H ds zs vs ws r _ l1 _ => ⟨r.append (hdd _ _ _), ?_⟩⟩, moFn (moS_of S sC hr h)⟩
    · obtain ⟨k, e1, e2⟩ := hb T kV doc pm an cdv ct us its l1 rT.length.symm
      refine BindsTo.of_looks fun M => ?_
      show PySem.W.Looks M s.heap (bindArgs _ ⟨us, []⟩) _
      rw [e1]
      exact looks_items X lT oT (.of_pure e2)
    · rw [List.length_append, l1, (hdd Z S H).length, List.length_drop, hn]
/-- a def's promise, its object kept -/
theorem ok_mkN {x qual : Str} {params : Arguments} {body : List Stmt} {scope : Scope} {kws : List (Str × V)} {f : Addr} {fd : FuncData} {tb : TSd} (F : FunD K x qual params body scope [] kws f fd) (S : FnScope N ps scope) (sC : Sc N scope vw)
    (h : ∀ X W, JD P w K mg base N scope vw k X W → JB X W body tb) : FnOk P w K mg base (L2.CX P w) (k + 1) f fd ps (LSp K ps.length (fnD ps.length N.length tb)) := by
  obtain ⟨oc, od, dV, kV, doc, pm, an, cdv, ct, osl, rfl, lk, hcd, hD, _⟩ := F.ex
  exact fnOk_of lk hcd S sC h
theorem mm {α : Type} {l : List α} {a : α} (j : Nat) (h : l[j]? = some a := by rfl) : a ∈ l := List.mem_of_getElem? h
/-- what the top tells: facts, defs, one thing more -/
structure Tp (fa : List He.Fa) (fn : List He.DefD) (bx : PySem.W.Frag → Bool) (K : PySem.W.Frag) (mg : Str → Option Value) : Prop where
  sy : He.SaysD fa fn K
  bx : bx K = true
  gl : ∀ x, (He.Fa.glo x).ok K = true → mg x = some (.ref (He.ga K x))
  fr : ∀ x, (He.Fa.free x).ok K = true → mg x = none
section
variable {fa : List He.Fa} {fn : List He.DefD} {bx : PySem.W.Frag → Bool}
theorem Tp.mk' {h : Heap} (X : K.In h) (G : h.Ns mainGlobals mg) (c : He.SaysD fa fn K ∧ bx K = true) : Tp fa fn bx K mg := ⟨c.1, c.2, fun _ q => He.glo_ok X G q, fun _ q => He.free_ok X G q⟩
theorem Tp.glo (T : Tp fa fn bx K mg) (i : Nat) {x : Str} (h : fa[i]? = some (.glo x) := by rfl) : mg x = some (.ref (He.ga K x)) := T.gl x (T.sy.fact i h)
theorem Tp.free (T : Tp fa fn bx K mg) (i : Nat) {x : Str} (h : fa[i]? = some (.free x) := by rfl) : mg x = none := T.fr x (T.sy.fact i h)
end
/-- a tuple of the top, of whole numbers -/
def tupI (K : PySem.W.Frag) (x : Str) (ns : List Int) : Bool := He.tupB K x (ns.map He.Dv.int)
theorem gc_tupI {x : Str} {ns : List Int} (hm : mg x = some (.ref (He.ga K x))) (h : tupI K x ns = true) : GC K mg x (.tup (ns.map D.int)) := by
  refine ⟨_, .ref (He.ga K x), hm, rfl, fun Z S H => .tup (He.tupB_ok h H) ?_⟩
  rw [List.map_map]
  exact RpL.ints
end

/-! ### the head's reading -/
def hookX (n : Nat) (fa : List He.Fa) (fn : List He.DefD) (bx : PySem.W.Frag → Bool) : PySem.W.Hook where
  α := Bool × He.AlD
  obs := fun s => (bx (He.frG s.heap.get? (He.asD s.heap.get? n)), He.obsDG n fa fn s.heap.get?)
  val := fun _ => (true, He.valD fn)
  says := fun _ h => ∃ K : PySem.W.Frag, K.In h ∧ He.SaysD fa fn K ∧ bx K = true
  of := fun _ _ e => ⟨_, He.frG_in, congrArg (fun z : Bool × He.AlD => z.2) e, congrArg (fun z : Bool × He.AlD => z.1) e⟩
  keeps := fun _ _ _ ⟨K, hK, c⟩ k => ⟨K, PySem.W.Frag.In.keeps hK k, c⟩
def obX (n : Nat) (fa : List He.Fa) (fn : List He.DefD) (bx : PySem.W.Frag → Bool) (s : PySem.W.SharedT) : Bool × He.AlD := (bx (He.frG (HandSHeadRun.getT s) (He.asD (HandSHeadRun.getT s) n)), He.obsDG n fa fn (HandSHeadRun.getT s))
theorem obX_eq {n : Nat} {fa : List He.Fa} {fn : List He.DefD} {bx : PySem.W.Frag → Bool} (s : PySem.W.SharedT) : obX n fa fn bx s = (hookX n fa fn bx).obs s.abs := by
  have e : HandSHeadRun.getT s = s.abs.heap.get? := funext (HandSHeadRun.getT_eq s)
  unfold obX
  rw [e]
  rfl
/-- the end, what leaves a call told of each world -/
theorem walk_ofX {l : PySem.W.OpenLaw} {n k : Nat} {q : Program} {loose : List Str} {XP : (Str → Option Value) → Heap → Prop} {YP : World → Heap → Prop} {d : DefRec} {x : Str} (hn : l.most = some n) (hn2 : n ≤ sizeLine) (hdf : d.params.defaults = []) (hr : Room k callerA)
    (F : ∀ (w : World) (mg : Str → Option Value) (fa : Addr) (h : Heap), YP w h → h.Ns mainGlobals mg → mg d.name = some (.ref fa) → ∃ (K : PySem.W.Frag) (fd : FuncData), K.In h ∧ (∀ (s : Shared) (u : Value), BindsTo s fd ⟨[u], []⟩ [(x, u)]) ∧ ∀ base : Heap, K.In base → base.Ns mainGlobals mg → FnOk l.prog w K mg base (L2.CX l.prog w) k fa fd [x] (spLaw K n)) : PySem.W.WalkO q loose XP YP l.row.toRowW d [] (fun f vs => PySem.call f vs) := by
  refine Att.attach_call hn hdf fun w s0 s1 mg mb fa o pm cd doc a vs ns G Y ho hd hcd hmg hobj hints hlen hg => ?_
  obtain ⟨K, fd, KX, hb, hF⟩ := F w mg fa _ Y G.T.g hmg
  refine law_call KX G.T.g G.T.b G.T.builtins G.T.nolimit hg hobj hints (Nat.le_trans hlen hn2) hr hF hb (fun H hO hS => ⟨a, ns, rfl, hS, hlen, hO, fun _ => rfl⟩) fun H e s' z => ?_
  obtain ⟨_, _, _, _, _, _, _, _, _, _, _, _, z⟩ := z
  exact z
end Bl

namespace Bl
open PySem PySem.Spec PyProof.Rows L2
/-! ### monotony by shape -/
end Bl

namespace Bl
open PySem PySem.Spec PyProof.Rows L2
/-! ### within an except suite: no calls of defs, nothing is raised -/
structure JC0 (K : PySem.W.Frag) (mg : Str → Option Value) (N : List Str) (sc : Scope) (vw : Vw) (X : Cx) : Prop where
  kk : X.K = K
  gg : X.mg = mg
  nn : X.N = N
  ss : X.env.scope = sc
  sC : Sc N sc vw
  nd : N.Nodup
section
variable {K : PySem.W.Frag} {mg : Str → Option Value} {N : List Str} {sc : Scope} {vw : Vw} {X : Cx} {W : WX}
theorem JC0.gl (c : JC0 K mg N sc vw X) {x : Str} (h : x ∈ vw.gs) : Gl X x := by
  show X.env.scope.names.lookup x = some .globalImplicit
  rw [c.ss]
  exact (c.sC.gl x h).1
end
/-! ### isinstance of the one that is held -/
def vOfU : Value → V
  | .ref C => .ref C
  | .type T => .ty T
  | _ => .non
section
variable {K : PySem.W.Frag} {mg : Str → Option Value} {N : List Str} {sc : Scope} {vw : Vw} {X : Cx} {W : WX}
/-- the suite's context: a of the class D -/
structure JX (K : PySem.W.Frag) (mg : Str → Option Value) (N : List Str) (sc : Scope) (vw : Vw) (a Dc : Addr) (X : Cx) : Prop extends JC0 K mg N sc vw X where
  xc : ∃ (X0 : Cx) (oe : Obj) (pn : List (Addr × Obj)), X = X0.suite a ((a, oe) :: pn) ∧ Zc (.ref Dc) none oe ∧ ∃ vs, oe.data = .fields vs
/-- the classes by their names, as arguments -/
structure PCls (X : Cx) (es : List Expr) (us : List Value) : Prop where
  pa : ∃ ta, PA X es ta ∧ (∀ σ H (Q : List V → Hp → Prop), Q (us.map vOfU) H → ta σ H Q)
  rel : ∀ ws, Vals (us.map vOfU) ws → ws = us
end

/-! ### try, except C as n -/
def ndS (i : Nat) (N : Nd) : Nd := ⟨fun e s => N.nx (e.set i none) s, N.rt, fun e s => N.bk (e.set i none) s, fun e s => N.ct (e.set i none) s, fun _ _ _ => False⟩
/-- sb: of each class that may fly, whether the clause takes it -/
def ndT (sb : Str → Option Bool) (i : Nat) (u : Addr → Str → TSd) (N : Nd) : Nd := ⟨N.nx, N.rt, N.bk, N.ct, fun x e S1 => match sb x.nm with
  | some true => x.fs = [] ∧ ∀ a, u a x.nm (e.set i (some (.obj a))) S1 (ndS i N)
  | some false => N.ex x e S1
  | none => False⟩
def sTryAs (t : TSd) (sb : Str → Option Bool) (i : Nat) (u : Addr → Str → TSd) : TSd := fun env S N => t env S (ndT sb i u N)
section
variable {P : Program} {w : World} {K : PySem.W.Frag} {mg : Str → Option Value} {base : Heap} {N : List Str} {sc : Scope} {vw : Vw} {k : Nat} {X : Cx} {W : WX}
end

/-! ### what the head tells of exceptions -/
/-- a class's value by its name -/
def clU (K : PySem.W.Frag) (x : Str) : Value := match PySem.W.nsIn K mainGlobals x with
  | some (some (.ref C)) => .ref C
  | _ => match bootBuiltins x with
    | some (.type T) => .type T
    | _ => .none
def kitB (K : PySem.W.Frag) (D : Str) (xs : List Str) (b : Bool) : Bool := decide (PySem.W.kitAny K (.ref (He.ga K D)) (xs.map (clU K)) = some b)
/-! ### keyword-only defaults that fill up -/
section
variable {P : Program} {w : World} {K : PySem.W.Frag} {mg : Str → Option Value} {base : Heap} {N ps : List Str} {vw : Vw} {k : Nat}
end

section
variable {P : Program} {w : World} {K : PySem.W.Frag} {mg : Str → Option Value} {base : Heap} {N : List Str} {sc : Scope} {vw : Vw} {k : Nat} {X : Cx} {W : WX}
/-- raise C('..'), C an own class under ValueError -/
theorem js_raiseV (c : JC P w K mg base N sc vw k X W) {x m : Str} {j : Nat} {p p2 p3 pos : Pos} (hx : x ∈ vw.gs) (hg : (He.Fa.glo x).ok K = true) (he : (He.Fa.exc x).ok K = true) (hm : mg x = some (.ref (He.ga K x))) : JS X W (.Raise (some (.Call (.Name x p) [.Constant (.str m) j p2] [] p3)) none pos) (sRaise x) := by
  obtain ⟨h1, h2, h3, h4⟩ := He.exc_ok he
  have e : PySem.W.nsIn K mainGlobals x = some (some (.ref (He.ga K x))) := He.eqO_ok hg
  have hk := c.kk
  subst hk
  exact js_raise c.calm c.tk e (pmk_own PySem.F.excBase_ValueError h1 (by rw [c.gg]; exact hm) h2 (raises_own h3 h4) (c.gl hx) (c.sC.gl x hx).2.2)
end
theorem all_at {l : List (PySem.W.Frag → Bool)} {K : PySem.W.Frag} (h : (l.all fun f => f K) = true) (i : Nat) {f : PySem.W.Frag → Bool} (e : l[i]? = some f) : f K = true := List.all_eq_true.mp h f (List.mem_of_getElem? e)
end Bl

/-! a, *b, c = xs -/
namespace Bl
open PySem PySem.Spec PyProof.Rows L2
section
variable {prog : Program} {w : World} {A : Around} {E : Value → Shared → Prop} {s : Shared}
theorem walks_off {I ax : Addr} {n : Nat} {P : Nat → Value → Prop} {St : Nat → Heap → Prop} (W : Walks prog w A I [I, ax] [I] n P St) (i : Nat) (hi : i ≤ n) : Walks prog w A I [I, ax] [I] (n - i) (fun j v => P (i + j) v) (fun j h => St (i + j) h) where
  sub := W.sub
  frame := fun j h h' st k => W.frame (i + j) h h' st k
  item := fun j s Q E hj st hQ => W.item (i + j) s Q E (by omega) st fun v h' tk hp st' k => hQ v h' tk hp st' k
  done := fun s Q E st hQ => W.done s Q E (by have z : i + (n - i) = n := by omega
                                              rw [z] at st; exact st) hQ
  self := fun j s Q E st hQ => W.self (i + j) s Q E st hQ
theorem collect_off {T : String} (hT : T = "list_iterator" ∨ T = "tuple_iterator") {I ax : Addr} {items : Array Value} {St : Nat → Heap → Prop} (W : Walks prog w A.in1 I [I, ax] [I] items.size (fun j v => items[j]? = some v) St) (ht : ∀ j (s : Shared), St j s.heap → s.TypeIs (.ref I) T) (i : Nat) (hi : i ≤ items.size) (st : St i s.heap) (hI : I < s.heap.objs.size) (hax : ax < s.heap.objs.size) (hsz : items.size ≤ sizeLine) {Q : List Value → Shared → Prop}
    (hQ : ∀ h' tk, (∀ b o, b ≠ I → s.heap.get? b = some o → h'.get? b = some o) → Q (items.toList.drop i) { s with heap := h', toks := tk }) : wpAny (model prog w) A (collect (.ref I)) Q E s := by
  refine wpAny_collect_iter (T := T) (by rcases hT with h | h <;> simp [h]) (walks_off W i hi).toS (fun j s h => ht _ s h) st (fun b hb => ?_) (List.mem_cons_self ..) (fun s' acc hm ha => ?_) (by omega)
  · rcases List.mem_cons.mp hb with rfl | hb
    · exact hI
    · rw [List.mem_singleton.mp hb]; exact hax
  · have e : acc.toList = items.toList.drop i := by
      apply List.ext_getElem?
      intro j
      rw [List.getElem?_drop, Array.getElem?_toList, Array.getElem?_toList]
      by_cases hj : j < acc.size
      · have h1 : acc[j]? = some acc[j] := by simp [hj]
        rw [h1, ha.2 j _ h1]
      · have := ha.1
        rw [Array.getElem?_eq_none (by omega), Array.getElem?_eq_none (by omega)]
    rw [e, Moved.eq_with hm]
    exact hQ _ _ fun b o hb h => hm.heap b o (fun z => hb (List.mem_singleton.mp z)) h
theorem star_rest {I : Addr} {items : Array Value} {i aft : Nat} {Q : List Value → Shared → Prop} (hle : i + aft ≤ items.size) (hsz : items.size ≤ sizeLine)
    (hc : ∀ {R : List Value → Shared → Prop}, (∀ h' tk, (∀ b o, b ≠ I → s.heap.get? b = some o → h'.get? b = some o) → R (items.toList.drop i) { s with heap := h', toks := tk }) → wpAny (model prog w) A (collect (.ref I)) R E s)
    (hQ : ∀ (h' h'' : Heap) tk (p : Addr), (∀ b o, b ≠ I → s.heap.get? b = some o → h'.get? b = some o) → h'' = h'.push { cls := .type "list", data := .seq ((items.toList.drop i).take (items.size - i - aft)).toArray } → p = h'.objs.size →
      Q (items.toList.take i ++ [.ref p] ++ (items.toList.drop i).drop (items.size - i - aft)) { s with heap := h'', toks := tk }) :
    wpAny (model prog w) A (do
      let rest ← holding (items.toList.take i) (collect (.ref I))
      let after := i + 1 + aft - 1 - i
      if rest.length < after then
        rule "unpack.star.too-few"
        raiseError "ValueError" s!"not enough values to unpack (expected at least {i + 1 + aft - 1}, got {i + rest.length})"
      let mid := rest.length - after
      return (items.toList.take i) ++ [← newList (rest.take mid)] ++ rest.drop mid : Sem (List Value)) Q E s := by
  refine wpAny_bind (wpAny_holding (hc fun h' tk hk => ?_))
  have e1 : i + 1 + aft - 1 - i = aft := by omega
  have e2 : (items.toList.drop i).length = items.size - i := by simp
  dsimp only
  rw [e1, e2]
  rw [if_neg (by omega)]
  show wpAny _ _ (newList ((items.toList.drop i).take (items.size - i - aft)) >>= _) _ _ _
  refine wpAny_bind ?_
  unfold newList
  refine wpAny_newObj_type ?_ (by show (((items.toList.drop i).take (items.size - i - aft)).toArray).size ≤ _; simp only [List.size_toArray, List.length_take, List.length_drop, Array.length_toList]; omega)
  exact wpAny_pure (hQ h' _ tk _ hk rfl rfl)

def starQ (s : Shared) (items : Array Value) (i aft : Nat) (Q : List Value → Shared → Prop) : Prop := ∀ (h' h'' : Heap) (tk : Nat) (p : Addr), (∀ b o, s.heap.get? b = some o → h'.get? b = some o) → h'' = h'.push { cls := .type "list", data := .seq ((items.toList.drop i).take (items.size - i - aft)).toArray } → p = h'.objs.size →
      Q (items.toList.take i ++ [.ref p] ++ (items.toList.drop i).drop (items.size - i - aft)) { s with heap := h'', toks := tk }
theorem star_itemsL {l : Addr} {items : Array Value} {i aft : Nat} {Q : List Value → Shared → Prop} (hh : A.handled = none) (hl : s.heap.IsList l items) (hle : i + aft ≤ items.size) (hsz : items.size ≤ sizeLine) (hQ : starQ s items i aft Q) : wpAny (model prog w) A (unpackItems (.ref l) (i + 1 + aft) (some i)) Q E s := by
  have hlt : l ≠ s.heap.objs.size := by obtain ⟨o, ho, _⟩ := hl; exact Nat.ne_of_lt (Heap.lt_size ho)
  have hl2 : l < s.heap.objs.size := by obtain ⟨o, ho, _⟩ := hl; exact Heap.lt_size ho
  unfold unpackItems
  refine wpAny_bind ?_
  unfold notIterableAtAll
  refine wpAny_bind (wpAny_specialOf hl.typeIs slot_list_iter.lookup ?_)
  refine wpAny_pure ?_
  simp only [Bool.false_eq_true, if_false]
  refine wpAny_bind (wpAny_holding (wpAny_pyIter_list hl ?_))
  refine wpAny_bind (wpAny_holding (PySem.W.kun_draw hlt i 0 _ _ ⟨_, Heap.get?_push_size _ rfl, rfl, rfl⟩ (hl.push _) (by omega) fun h₁ hit₁ hs₁ => ?_))
  rw [Nat.zero_add] at hit₁
  rw [List.drop_zero]
  have e0 : (items.toList.take i).length = i := by rw [List.length_take, Array.length_toList]; omega
  rw [e0, if_neg (Nat.lt_irrefl i)]
  have hl₁ : h₁.IsList l items := (hl.push _).extBut hs₁.extBut hlt
  refine star_rest (I := s.heap.objs.size) hle hsz (fun hR => ?_) fun h' h'' tk p hk e1 e2 => hQ h' h'' tk p (fun b o hb => hk b o (Nat.ne_of_lt (Heap.lt_size hb)) (hs₁.extBut b o (Nat.ne_of_lt (Heap.lt_size hb)) (Heap.get?_push_of_some _ hb))) e1 e2
  obtain ⟨oi, hoi, _⟩ := id hit₁
  obtain ⟨ol, hol, _⟩ := id hl₁
  exact collect_off (.inl rfl) (Walks.list (A := A.in1) hh _ l hlt items) (fun j s h => let ⟨o, ho, hc, _⟩ := h.1; ⟨o, ho, hc⟩) i (by omega) ⟨hit₁, hl₁⟩ (Heap.lt_size hoi) (Heap.lt_size hol) hsz hR
theorem star_itemsT {l : Addr} {items : Array Value} {i aft : Nat} {Q : List Value → Shared → Prop} (hh : A.handled = none) (hl : IsTup s.heap l items) (hle : i + aft ≤ items.size) (hsz : items.size ≤ sizeLine) (hQ : starQ s items i aft Q) : wpAny (model prog w) A (unpackItems (.ref l) (i + 1 + aft) (some i)) Q E s := by
  have hlt : l ≠ s.heap.objs.size := by obtain ⟨o, ho, _⟩ := hl; exact Nat.ne_of_lt (Heap.lt_size ho)
  unfold unpackItems
  refine wpAny_bind ?_
  unfold notIterableAtAll
  refine wpAny_bind (wpAny_specialOf hl.typeIs slot_tuple_iter.lookup ?_)
  refine wpAny_pure ?_
  simp only [Bool.false_eq_true, if_false]
  refine wpAny_bind (wpAny_holding (iter_tuple hl ?_))
  refine wpAny_bind (wpAny_holding (draw_tuple hlt i 0 _ _ ⟨_, Heap.get?_push_size _ rfl, rfl, rfl⟩ (hl.push _) (by omega) fun h₁ hit₁ hs₁ => ?_))
  rw [Nat.zero_add] at hit₁
  rw [List.drop_zero]
  have e0 : (items.toList.take i).length = i := by rw [List.length_take, Array.length_toList]; omega
  rw [e0, if_neg (Nat.lt_irrefl i)]
  have hl₁ : IsTup h₁ l items := (hl.push _).extBut hs₁.extBut hlt
  refine star_rest (I := s.heap.objs.size) hle hsz (fun hR => ?_) fun h' h'' tk p hk e1 e2 => hQ h' h'' tk p (fun b o hb => hk b o (Nat.ne_of_lt (Heap.lt_size hb)) (hs₁.extBut b o (Nat.ne_of_lt (Heap.lt_size hb)) (Heap.get?_push_of_some _ hb))) e1 e2
  obtain ⟨oi, hoi, _⟩ := id hit₁
  obtain ⟨ol, hol, _⟩ := id hl₁
  exact collect_off (.inr rfl) (Walks.tuple (A := A.in1) hh _ l hlt items) (fun j s h => let ⟨o, ho, hc, _⟩ := h.1; ⟨o, ho, hc⟩) i (by omega) (show Heap.IsTupleIter h₁ _ l i ∧ Heap.IsTuple h₁ l items from ⟨hit₁, hl₁⟩) (Heap.lt_size hoi) (Heap.lt_size hol) hsz hR
end
/-- the items as they are stored: i ahead, those between as a list, aft behind -/
def starD (i aft : Nat) (ds : List D) : List D := ds.take i ++ [.lst ((ds.drop i).take (ds.length - i - aft))] ++ (ds.drop i).drop (ds.length - i - aft)
def starV (i aft : Nat) (p : Addr) (vs : List V) : List V := vs.take i ++ [.ref p] ++ (vs.drop i).drop (vs.length - i - aft)
def LGstar (K : PySem.W.Frag) (i aft : Nat) (gs : List Tg) : TG := fun v σ H Q => ∃ Z env S d ds env', RE ⟨K, Z⟩ S H env σ ∧ RS ⟨K, Z⟩ S H ∧ Rp ⟨K, Z⟩ S H d v ∧ itemsOf S d = some ds ∧ i + aft ≤ ds.length ∧ asgL S gs (starD i aft ds) env = some env' ∧
  ∀ σ' H', Aft ⟨K, Z⟩ S H S H' → RE ⟨K, Z⟩ S H' env' σ' → Q σ' H'
section
variable {X : Cx} {W : WX}
theorem vals_star {i aft : Nat} {p : Addr} {vs : List V} {its : List Value} (r : Vals vs its) : Vals (starV i aft p vs) (its.take i ++ [.ref p] ++ (its.drop i).drop (its.length - i - aft)) := by
  unfold starV
  rw [r.length]
  exact ((r.take i).append (.cons (show L2.RelV (.ref p) (.ref p) from rfl) .nil)).append ((r.drop i).drop _)
theorem rpl_star {K : Kz} {S : Sto} {H : Hp} {i aft : Nat} {p : Addr} {ds : List D} {vs : List V} (rs : RS K S H) (hp : H p = none) (r : RpL K S H ds vs) : Aft K S H S (upd H p (.lst ((vs.drop i).take (vs.length - i - aft)))) ∧ RpL K S (upd H p (.lst ((vs.drop i).take (vs.length - i - aft)))) (starD i aft ds) (starV i aft p vs) := by
  unfold starD starV
  rw [r.length]
  obtain ⟨a, rn⟩ := Rp.newL rs hp ((r.drop i).take (vs.length - i - aft))
  refine ⟨a, ?_⟩
  have r2 := RpL.step a.st rs _ _ r
  exact ((r2.take i).append (.cons rn .nil)).append ((r2.drop i).drop _)
theorem pg_star {es es' : List Expr} {k i aft : Nat} {gs : List Tg} {pos : Pos} (hc : X.calm = true) (h : JGs X es' gs) (hm : (assignEach es X.env).map (·.2) = (assignEach es' X.env).map (·.2)) (hn : (assignEach es X.env).length = i + 1 + aft) (hst : (assignEach es X.env).findIdx? (·.1) = some i) : PG X (.Tuple es k pos) (LGstar X.K i aft gs) := by
  refine ⟨fun pins s σ H v u Q I r hw => ?_⟩
  obtain ⟨Z, env, S, d, ds, env', re, rs, rp, e1, hle, e2, q⟩ := hw
  rw [PyProof.Rows.assign_Tuple]
  refine wpAny_bind (wpAny_standAt ?_)
  unfold unpack
  rw [hn, hst]
  have fin : ∀ (vs : List V) (its : List Value), vs.length ≤ sizeLine → RpL ⟨X.K, Z⟩ S H ds vs → Vals vs its → starQ s its.toArray i aft fun us s1 => wpAny (model X.prog X.w) X.A (assignInOrder ((assignEach es X.env).map (·.2)) us) (fun _ s' => ∃ σ' H', Inv X pins σ' H' s' ∧ Q σ' H') X.xe s1 := by
    intro vs its hz rl rv h' h'' tk p hk eh ep
    have I1 : Inv X pins σ H { s with heap := h', toks := s.toks } := I.kept hk
    have hp : H p = none := by rw [ep]; exact I1.hok.fresh (Nat.le_refl _)
    obtain ⟨a, r2⟩ := rpl_star (i := i) (aft := aft) rs hp rl
    have I2 : Inv X pins σ (upd H p (.lst ((vs.drop i).take (vs.length - i - aft)))) { s with heap := h'', toks := tk } := by
      rw [eh, ep]
      refine I1.laid (t' := tk) (fun b u e => Heap.get?_push_of_some _ e) (Nat.le_refl _) ⟨?_, (its.drop i).take (its.length - i - aft), 0, ?_, ?_⟩
      · rw [List.length_take, List.length_drop]; omega
      · rw [rv.length]; exact (rv.drop i).take _
      · have := Heap.get?_push_size h' (o := { cls := .type "list", data := .seq ((its.toArray.toList.drop i).take (its.toArray.size - i - aft)).toArray }) rfl
        simpa using this
    rw [hm]
    refine h.pg.run pins _ σ _ (starV i aft p vs) _ Q I2 ?_ ⟨Z, env, S, _, env', re.step a.st rs, a.rs, r2, e2, fun σ' r' _ => q σ' _ a r'⟩
    have := vals_star (i := i) (aft := aft) (p := p) rv
    simpa using this
  have fl : ∀ (a : Addr) (vs : List V), SqL X.K H a vs → RpL ⟨X.K, Z⟩ S H ds vs → wpAny (model X.prog X.w) X.A (do assignInOrder ((assignEach es X.env).map (·.2)) (← holding [.ref a] (unpackItems (.ref a) (i + 1 + aft) (some i)))) (fun _ s' => ∃ σ' H', Inv X pins σ' H' s' ∧ Q σ' H') X.xe s := by
    intro a vs h1 rl
    obtain ⟨its, rv, pl, hz⟩ := I.list h1
    have l1 := rl.length
    have l2 := rv.length
    exact wpAny_bind (wpAny_holding (star_itemsL (I.ok.hd hc) pl.isList (by simp only [List.size_toArray]; omega) (by simp only [List.size_toArray]; omega) (fin vs its hz rl rv)))
  unfold itemsOf at e1
  cases rp with
  | tup h1 rl =>
    cases e1
    cases r
    obtain ⟨its, rv, ht, hz⟩ := I.tuple h1
    have l1 := rl.length
    have l2 := rv.length
    exact wpAny_bind (wpAny_holding (star_itemsT (I.ok.hd hc) ht (by simp only [List.size_toArray]; omega) (by simp only [List.size_toArray]; omega) (fin _ its hz rl rv)))
  | lst h1 _ _ rl =>
    cases e1
    cases r
    exact fl _ _ (.inl h1) rl
  | lstK h1 rl =>
    cases e1
    cases r
    exact fl _ _ (SqL.ofK h1) rl
  | ref a =>
    obtain ⟨vs, h1, rl⟩ := rs.at_ a ds e1
    cases r
    exact fl _ _ (SqL.of h1) rl
  | _ => cases e1
end
/-- a, *b, c = x -/
def starK (i aft : Nat) (gs : List Tg) (d : D) (env : Ev) (S : Sto) (nx : Ev → Sto → Prop) : Prop := match itemsOf S d with
  | some ds => i + aft ≤ ds.length ∧ match asgL S gs (starD i aft ds) env with
    | some e => nx e S
    | none => False
  | none => False
def sStar (te : TEd) (i aft : Nat) (gs : List Tg) : TSd := fun env S N => te env S (fun d S1 => starK i aft gs d env S1 N.nx) fun x S1 => N.ex x env S1
theorem moStar {te : TEd} {i aft : Nat} {gs : List Tg} (h : MoE te) : MoS (sStar te i aft gs) := fun env S A B l q => h _ _ _ _ _ _ (fun d S1 q1 => by
  unfold starK at q1 ⊢
  split at q1 <;> first | exact q1.elim | skip
  refine ⟨q1.1, ?_⟩
  have q2 := q1.2
  split at q2 <;> first | exact q2.elim | exact l.nx _ _ q2) (fun x S1 q1 => l.ex _ _ _ q1) q
theorem js_star {X : Cx} {W : WX} {e : Expr} {te : TEd} {es es' : List Expr} {k i aft : Nat} {gs : List Tg} {tpos pos : Pos} (hc : X.calm = true) (he : JE X W e te) (h : JGs X es' gs) (hn : (assignEach es X.env).length = i + 1 + aft := by rfl) (hst : (assignEach es X.env).findIdx? (·.1) = some i := by rfl) (hm : (assignEach es X.env).map (·.2) = (assignEach es' X.env).map (·.2) := by rfl)
    (hs : swapsWithSole [.Tuple es k tpos] e pos.line X.env = pure false := by rfl) (hw : swappedStores [.Tuple es k tpos] e X.env = pure none := by rfl) (h1 : (assignEach [.Tuple es k tpos] X.env).map (·.2) = [assign (.Tuple es k tpos) X.env] := by rfl) :
    JS X W (.Assign [.Tuple es k tpos] e pos) (sStar te i aft gs) := by
  refine ⟨PS.imp (ps_asg he.pe (pg_star hc h hm hn hst) hs hw h1) fun N σ H h => ?_, moStar he.mo⟩
  obtain ⟨Z, env, S, re, rs, q⟩ := h
  refine LE.of he.mo re rs q (fun d S1 v H1 q1 a1 r1 => ?_) fun x S1 c dx H1 q1 a1 r1 => exS re rs q1 a1 r1
  unfold starK at q1
  split at q1 <;> first | exact q1.elim | skip
  rename_i ds ed
  obtain ⟨hle, q2⟩ := q1
  split at q2 <;> first | exact q2.elim | skip
  rename_i e1 ee
  exact ⟨Z, env, S1, d, ds, e1, re.step a1.st rs, a1.rs, r1, ed, hle, ee, fun σ' H2 a2 r' => q2 σ' H2 (a1.trans a2) r'⟩
end Bl

/-! enumerate, zip, reversed over lists and tuples -/
namespace Bl
open PySem PySem.Spec PyProof.Rows L2
theorem meets_enum1 {v : Value} {o : Obj} {H : Heap → Prop} (B : Begins v o H) :
    Meets (Builtin.«enumerate.__new__» ⟨[.type "enumerate", v], []⟩) (fun _ R s => H s.heap ∧
      R (.ok (.ret (.ref (s.heap.push o).objs.size))) { s with heap := (s.heap.push o).push { cls := .type "enumerate", data := .fields #[.none, .bool false, .ref s.heap.objs.size, rawInt 0, .none, .none] } }) :=
  .of_wp fun prog w A R s h => by
    obtain ⟨hp, g, d, tk, os⟩ := s; obtain ⟨h1, h⟩ := h
    have hsub := sub_enumerate
    have q1 : ∀ {A' : Around} {E : Value → Shared → Prop} {Q : Value → Shared → Prop}, Q (.ref hp.objs.size) ⟨hp.push o, g, d, tk, os⟩ → wpAny (model prog w) A' (pyIter v) Q E ⟨hp, g, d, tk, os⟩ :=
      fun q => B.iter prog w _ _ ⟨hp, g, d, tk, os⟩ _ h1 q
    wp_walk using q1
    refine wpAny_stack_any fun st => wpAny_pure ?_
    split
    · rename_i c _ _ _ _ _
      cases (c == Value.type "enumerate")
      · wp_walk using q1
        exact ⟨_, rfl, h⟩
      · wp_walk using q1
        exact ⟨_, rfl, h⟩
    · wp_walk using q1
      exact ⟨_, rfl, h⟩
section
variable {prog : Program} {w : World} {A : Around} {E : Value → Shared → Prop} {s : Shared}
theorem enum_begins1 {v : Value} {o : Obj} {H : Heap → Prop} {Q : Value → Shared → Prop} (B : Begins v o H) (h1 : H s.heap)
    (h : ∀ h', IsEnum h' (s.heap.objs.size + 1) s.heap.objs.size 0 .none → h'.get? s.heap.objs.size = some o → h'.objs.size = s.heap.objs.size + 2 →
      (∀ b o, s.heap.get? b = some o → h'.get? b = some o) → Q (.ref (s.heap.objs.size + 1)) { s with heap := h' }) :
    wpAny (model prog w) A (call (.type "enumerate") [v]) Q E s := by
  refine callType_new F.called_enumerate (by decide) (F.typeCall_enumerate_1 _) (F.newCall_enumerate_1 _) (fun obj => F.args_object_init_2 obj _) F.entry_enumerate_new
    (meets_enum1 B) ⟨h1, ?_⟩
  have hz : (s.heap.push o).objs.size = s.heap.objs.size + 1 := Heap.size_push ..
  show _ ∧ _
  rw [hz]
  have he : IsEnum ((s.heap.push o).push { cls := .type "enumerate", data := .fields #[.none, .bool false, .ref s.heap.objs.size, rawInt 0, .none, .none] }) (s.heap.objs.size + 1) s.heap.objs.size 0 .none := by
    have := Heap.get?_push_size (s.heap.push o) (o := { cls := .type "enumerate", data := .fields #[.none, .bool false, .ref s.heap.objs.size, rawInt 0, .none, .none] }) rfl
    rw [hz] at this; exact this
  refine ⟨⟨_, he, rfl⟩, h _ he (Heap.get?_push_of_some _ (Heap.get?_push_size _ B.free)) (by rw [Heap.size_push, hz]) fun b o x => Heap.get?_push_of_some _ (Heap.get?_push_of_some _ x)⟩
end
/-- the tuple at a, each item in a new pair -/
def IteT (K : PySem.W.Frag) (a : Addr) : It :=
  ⟨fun i H => ∃ (xs : List V) (x : V), SqT K H a xs ∧ xs[i]? = some x, fun i H v H' => ∃ T x, v = .ref T ∧ H T = none ∧ H' = upd H T (.tup [.int (i : Nat), x]) ∧ ∀ xs, SqT K H a xs → xs[i]? = some x, fun i H => ∃ xs : List V, SqT K H a xs ∧ xs.length = i⟩
theorem turn_enumT {P : Program} {w : World} {K : PySem.W.Frag} {elts : List Expr} {kk : Nat} {tpos : Pos} (a e it : Addr) (hai : a ≠ it) (hea : e ≠ a) :
    Turn P w K (.Tuple elts kk tpos) (IteT K a) [e, it] e (fun i h => (∃ old, IsEnum h e it ((i : Nat) : Int) old) ∧ h.IsTupleIter it a i ∧ e ≠ it) where
  mem := by simp
  obj := fun i h st b hb => by
    obtain ⟨⟨old, he⟩, ⟨o, ho, hc, hd⟩, _⟩ := st
    have e' : b = e ∨ b = it := by simpa using hb
    rcases e' with z | z
    · rw [z]; exact ⟨_, he, fun v q => nomatch q⟩
    · rw [z]; exact ⟨o, ho, fun v q => by rw [hd] at q; cases q⟩
  keep := fun i h h' st k => let ⟨⟨old, he⟩, hi, hne⟩ := st; ⟨⟨old, k e (by simp) _ he⟩, hi.at fun o q => k it (by simp) o q, hne⟩
  item := by
    intro X hP hw hK hc i pins s σ H E I hf st hg
    subst hP hw hK
    obtain ⟨⟨old, he⟩, hit, hne⟩ := st
    obtain ⟨xs, x, hq, hx⟩ := hg
    obtain ⟨its, rv, p, hz⟩ := I.tuple hq
    obtain ⟨u, hu, ru⟩ := rv.get hx
    have hel : e < s.heap.objs.size := Heap.lt_size he
    have hil : it < s.heap.objs.size := by obtain ⟨_, q, _⟩ := hit; exact Heap.lt_size q
    have hef : e ∉ [it, a] := fun hm => by
      rcases List.mem_cons.mp hm with z | z
      · exact hne z
      · exact hea (List.mem_singleton.mp z)
    have hui : its.toArray[i]? = some u := by simpa using hu
    have hin : i < its.toArray.size := (Array.getElem?_eq_some_iff.mp hui).1
    refine wpAny_pyNext_enum_itemD (Draws.tuple (A := X.A.in1) (I.ok.hd hc) it a hai its.toArray) he ⟨hit, p⟩ hin hne hef fun x' h' tk hp ho hit' hT hsz hk => ?_
    have ex : x' = u := by
      have z : its.toArray[i]? = some x' := hp
      rw [hui] at z
      exact (Option.some.inj z).symm
    subst ex
    refine ⟨_, rfl, wpAny_letOwnedTupleGo_enum (s := { s with heap := h', toks := tk + 1 }) ho fun h'' he' sb => ?_⟩
    have hT2 : h''.get? s.heap.objs.size = some { cls := .type "tuple", data := .seq #[.int i tk, x'] } := (sb.2 _ (Nat.ne_of_gt hel)).trans hT
    have new : ObjOk X.prog X.w (upd H s.heap.objs.size (.tup [.int (i : Nat), x])) h'' s.heap.objs.size (.tup [.int (i : Nat), x]) :=
      ⟨by show 2 ≤ sizeLine; decide, [.int i tk, x'], .cons ⟨_, rfl⟩ (.cons ru .nil), ⟨_, hT2, rfl, _, rfl⟩⟩
    have I1 : Inv X pins σ (upd H s.heap.objs.size (.tup [.int (i : Nat), x])) { s with heap := h'', toks := tk + 1 } :=
      I.turnedNew (ch := [e, it]) (fun b ob hb q => (sb.2 b (fun z => hb (by simp [z]))).trans (hk b ob (fun z => hb (by simp [z])) (fun z => hb (by simp [z])) q)) hf (Nat.le_refl _) new
    refine ⟨.ref s.heap.objs.size, _, I1, rfl, ⟨_, x, rfl, I.hok.fresh (Nat.le_refl _), rfl, fun ys hy => by rw [I.tuple_inj hy hq]; exact hx⟩, ⟨⟨x', ?_⟩, hit'.1.at fun o q => (sb.2 it (Ne.symm hne)).trans q, hne⟩, fun b hb => ?_⟩
    · have e1 : ((i + 1 : Nat) : Int) = (i : Int) + 1 := by omega
      rw [e1]; exact he'
    · have hb' : b < s.heap.objs.size := by
        have e' : b = e ∨ b = it := by simpa using hb
        rcases e' with z | z
        · rw [z]; exact hel
        · rw [z]; exact hil
      rw [upd_ne (Nat.ne_of_lt hb')]
      exact (hf b hb).1
  done := by
    intro X hP hw hK hc i pins s σ H E I hf st hg
    subst hP hw hK
    obtain ⟨⟨old, he⟩, hit, hne⟩ := st
    obtain ⟨xs, hq, hx⟩ := hg
    obtain ⟨its, rv, p, hz⟩ := I.tuple hq
    obtain ⟨f0, f1, f2, f3, f4, f5⟩ := hf it (by simp)
    have hl := rv.length
    have ei : i = its.toArray.size := by rw [List.size_toArray]; omega
    rw [ei] at hit
    exact wpAny_pyNext_enum_endD (Draws.tuple (A := X.A.in1) (I.ok.hd hc) it a hai its.toArray) he ⟨hit, p⟩ fun h' eb => ⟨rfl, I.turned (t' := s.toks) (fun b o hb q => eb b o hb q) f0 f1 f3 f4 f5⟩
  self := fun A i s Q E st h => let ⟨⟨_, he⟩, _⟩ := st; wpAny_pyIter_enum he h
theorem walk_enumT {K : PySem.W.Frag} {a : Addr} {xs : List V} : Walk (IteT K a) xs.length (fun H => SqT K H a xs) (YPair (fun i => some (.int (i : Nat))) (fun i => xs[i]?)) := by
  refine ⟨fun i _ hi q => ⟨xs, xs[i], q, by simp [hi]⟩, fun _ q => ⟨xs, q, rfl⟩, fun i H v H' _ q y => ?_⟩
  obtain ⟨T, x, h1, h2, h3, h4⟩ := y
  exact ⟨T, .int (i : Nat), x, h1, h2, h3, rfl, h4 xs q⟩
theorem walk_zipT {K : PySem.W.Frag} {a b : Addr} {xs ys : List V} {n : Nat} (hn : n = min xs.length ys.length) : Walk (RZ.ItzT K a b) n (fun H => SqT K H a xs ∧ SqT K H b ys) (YPair (fun i => xs[i]?) (fun i => ys[i]?)) := by
  subst hn
  refine ⟨fun i _ hi q => ?_, fun _ q => ⟨xs, ys, q.1, q.2, by omega⟩, fun i H v H' _ q y => ?_⟩
  · have h1 : i < xs.length := by omega
    have h2 : i < ys.length := by omega
    exact ⟨xs, ys, xs[i], ys[i], q.1, q.2, by simp [h1], by simp [h2]⟩
  · obtain ⟨T, x, z, h1, h2, h3, h4, h5⟩ := y
    exact ⟨T, x, z, h1, h2, h3, h4 xs q.1, h5 ys q.2⟩
def iEnumA (K : PySem.W.Frag) (ta : TA) : TI := fun σ H R => ta σ H fun vs H1 => ∃ a xs, vs = [.ref a] ∧ ((SqL K H1 a xs ∧ R (Ite K a) H1) ∨ (SqT K H1 a xs ∧ R (IteT K a) H1))
theorem pi_enumA {X : Cx} {e : Expr} {ta : TA} {p pos tpos : Pos} {elts : List Expr} {kk : Nat} (hg : Gl X "enumerate") (hm : X.mg "enumerate" = none) (ha : PA X [e] ta) (hs : starEach [e] X.env = [(false, eval e X.env)] := by rfl) :
    PI X (.Tuple elts kk tpos) (.Call (.Name "enumerate" p) [e] [] pos) (iEnumA X.K ta) := by
  refine ⟨fun pins s σ H R I h => ?_⟩
  refine Call_ (ld_blt I hg hm boot_enumerate (PyProof.Rows.callWith_type1 (thn (ha.run pos pins s σ H _ I h) fun us s1 ⟨vs, H1, I1, r1, q1⟩ => ?_) hs rfl))
  obtain ⟨a, xs, ex, q⟩ := q1
  subst ex
  cases r1 with
  | cons r rr =>
    cases rr
    cases r
    have fr : ∀ b ∈ [s1.heap.objs.size + 1, s1.heap.objs.size], FpOk X pins H1 b := fun b hb => by
      have e' : b = s1.heap.objs.size + 1 ∨ b = s1.heap.objs.size := by simpa using hb
      have hle : s1.heap.objs.size ≤ b := by
        rcases e' with z | z
        · rw [z]; exact Nat.le_add_right _ _
        · rw [z]; exact Nat.le_refl _
      exact I1.fpOk hle (I1.hok.fresh hle)
    rcases q with ⟨hq, q⟩ | ⟨hq, q⟩
    · obtain ⟨its, rv, p', hz⟩ := I1.list hq
      refine call_enumerate_list p'.isList fun h' he hit hsz hk => wpAny_pyIter_enum he ?_
      have I2 : Inv X pins σ H1 { s1 with heap := h' } := I1.kept (t' := s1.toks) hk
      exact ⟨s1.heap.objs.size + 1, [s1.heap.objs.size + 1, s1.heap.objs.size], _, _, H1, rfl, I2, turn_enum a (s1.heap.objs.size + 1) s1.heap.objs.size, ⟨⟨.none, he⟩, hit, Nat.succ_ne_self _⟩, fr, q⟩
    · obtain ⟨its, rv, p', hz⟩ := I1.tuple hq
      obtain ⟨o1, ho1, _⟩ := id p'
      have hlt := Heap.lt_size ho1
      refine enum_begins1 (begins_tuple a its.toArray) p' fun h' he hit hsz hk => wpAny_pyIter_enum he ?_
      have I2 : Inv X pins σ H1 { s1 with heap := h' } := I1.kept (t' := s1.toks) hk
      exact ⟨s1.heap.objs.size + 1, [s1.heap.objs.size + 1, s1.heap.objs.size], _, _, H1, rfl, I2, turn_enumT a (s1.heap.objs.size + 1) s1.heap.objs.size (Nat.ne_of_lt hlt) (Nat.ne_of_gt (Nat.lt_succ_of_lt hlt)), ⟨⟨.none, he⟩, ⟨_, hit, rfl, rfl⟩, Nat.succ_ne_self _⟩, fr, q⟩
/-! ### the same over data -/
def enumD (ds : List D) : List D := (List.range ds.length).zipWith (fun (i : Nat) d => D.tup [.int i, d]) ds
def zipD (xs ys : List D) : List D := xs.zipWith (fun x y => D.tup [x, y]) ys
def seqD : D → Option (List D)
  | .tup ds => some ds
  | .lst ds => some ds
  | _ => none
def iEnumD (t : TEd) : TAd := fun env S Q E => t env S (fun d S1 => match seqD d with | some ds => Q (enumD ds) S1 | none => False) E
def iRevD (t : TEd) : TAd := fun env S Q E => t env S (fun d S1 => match seqD d with | some ds => Q ds.reverse S1 | none => False) E
def zipK (x y : D) (S : Sto) (Q : List D → Sto → Prop) : Prop := match x, y with
  | .tup xs, .tup ys => Q (zipD xs ys) S
  | .lst xs, .lst ys => Q (zipD xs ys) S
  | _, _ => False
def iZipD (t u : TEd) : TAd := fun env S Q E => t env S (fun x S1 => u env S1 (fun y S2 => zipK x y S2 Q) E) E
theorem moEnumD {t : TEd} (ht : MoE t) : MoE (iEnumD t) := fun env S Q Q' E E' h he q => ht _ _ _ _ _ _ (fun d S1 q1 => by
  split at q1 <;> first | exact h _ _ q1 | exact q1.elim) he q
theorem moRevD {t : TEd} (ht : MoE t) : MoE (iRevD t) := fun env S Q Q' E E' h he q => ht _ _ _ _ _ _ (fun d S1 q1 => by
  split at q1 <;> first | exact h _ _ q1 | exact q1.elim) he q
theorem moZipD {t u : TEd} (ht : MoE t) (hu : MoE u) : MoE (iZipD t u) := fun env S Q Q' E E' h he q => ht _ _ _ _ _ _ (fun x S1 q1 => hu _ _ _ _ _ _ (fun y S2 q2 => by
  unfold zipK at q2 ⊢
  split at q2 <;> first | exact h _ _ q2 | exact q2.elim) he q1) he q
theorem enumD_get {ds : List D} {i : Nat} {d : D} (e : ds[i]? = some d) : (enumD ds)[i]? = some (.tup [.int i, d]) := by
  have hi : i < ds.length := (List.getElem?_eq_some_iff.mp e).1
  unfold enumD
  rw [List.getElem?_zipWith, List.getElem?_range hi, e]
theorem enumD_len (ds : List D) : (enumD ds).length = ds.length := by unfold enumD; simp
theorem zipD_get {xs ys : List D} {i : Nat} {x y : D} (e : xs[i]? = some x) (e2 : ys[i]? = some y) : (zipD xs ys)[i]? = some (.tup [x, y]) := by
  unfold zipD
  rw [List.getElem?_zipWith, e, e2]
theorem zipD_len (xs ys : List D) : (zipD xs ys).length = min xs.length ys.length := by unfold zipD; simp
theorem Rp.pair {K : Kz} {S : Sto} {H : Hp} {T : Addr} {x y : V} {dx dy : D} (rs : RS K S H) (hT : H T = none) (r1 : Rp K S H dx x) (r2 : Rp K S H dy y) : Aft K S H S (upd H T (.tup [x, y])) ∧ Rp K S (upd H T (.tup [x, y])) (.tup [dx, dy]) (.ref T) :=
  Rp.newT rs hT (.cons r1 (.cons r2 .nil))
theorem wk_enum_of {K : Kz} {S : Sto} {H : Hp} {J : It} {G : Hp → Prop} {ds : List D} {vs : List V} (rl : RpL K S H ds vs) (wk : Walk J vs.length G (YPair (fun i => some (.int (i : Nat))) (fun i => vs[i]?))) (hG : ∀ S' H', Step S H S' H' → G H') : WkD K S H J (enumD ds) := by
  refine ⟨G, YPair (fun i => some (.int (i : Nat))) (fun i => vs[i]?), by rw [enumD_len, rl.length]; exact wk, hG, fun K' i S' H' x H'' _ _ rs' tr hi y => ?_⟩
  obtain ⟨T, x', y', rfl, hT, rfl, e1, e2⟩ := y
  cases e1
  obtain ⟨d, e3, r3⟩ := rl.get' e2
  obtain ⟨a, r⟩ := Rp.pair rs' hT (.int (i : Nat)) (tr d y' r3)
  exact ⟨a, _, enumD_get e3, r⟩
theorem wk_zip_of {K : Kz} {S : Sto} {H : Hp} {J : It} {G : Hp → Prop} {ds es : List D} {vs ws : List V} (rl : RpL K S H ds vs) (rl2 : RpL K S H es ws) (wk : Walk J (min vs.length ws.length) G (YPair (fun i => vs[i]?) (fun i => ws[i]?))) (hG : ∀ S' H', Step S H S' H' → G H') : WkD K S H J (zipD ds es) := by
  refine ⟨G, YPair (fun i => vs[i]?) (fun i => ws[i]?), by rw [zipD_len, rl.length, rl2.length]; exact wk, hG, fun K' i S' H' x H'' _ _ rs' tr hi y => ?_⟩
  obtain ⟨T, x', y', rfl, hT, rfl, e1, e2⟩ := y
  obtain ⟨d, e3, r3⟩ := rl.get' e1
  obtain ⟨d2, e4, r4⟩ := rl2.get' e2
  obtain ⟨a, r⟩ := Rp.pair rs' hT (tr d x' r3) (tr d2 y' r4)
  exact ⟨a, _, zipD_get e3 e4, r⟩
section
variable {P : Program} {w : World} {K : PySem.W.Frag} {mg : Str → Option Value} {base : Heap} {N : List Str} {sc : Scope} {vw : Vw} {k : Nat} {X : Cx} {W : WX}
/-- one argument of a call -/
theorem la_one {te : TEd} (mo : MoE te) {σ : L2.St} {H : Hp} {Q : List V → Hp → Prop} (h : LE X.K W te σ H fun v H1 => Q [v] H1) : LA X.K W (aCons te aNil) σ H Q := by
  obtain ⟨Z, env, S, re, rs, q⟩ := h
  refine ⟨Z, env, S, re, rs, mo _ _ _ _ _ _ (fun d S1 q1 vs H1 a r => ?_) (fun x S1 q1 c dx H1 a r => q1 c dx H1 a r) q⟩
  obtain ⟨v, rfl, r1⟩ := r.one
  exact q1 v H1 a r1
theorem ji_enum {e : Expr} {te : TEd} {p pos tpos : Pos} {elts : List Expr} {kk : Nat} (c : JC P w K mg base N sc vw k X W) (hx : ("enumerate" : Str) ∈ vw.gs) (hm : mg "enumerate" = none) (he : JE X W e te) (hs : starEach [e] X.env = (false, eval e X.env) :: starEach [] X.env := by rfl) : JI X W (.Tuple elts kk tpos) (.Call (.Name "enumerate" p) [e] [] pos) (iEnumD te) := by
  have ja := ja_cons he (ja_nil (X := X) (W := W)) hs
  refine ⟨⟨fun pins s σ H R I h => (pi_enumA (c.gl hx) (by rw [c.gg]; exact hm) ja.pa hs).run pins s σ H R I (la_one he.mo ?_)⟩, moEnumD he.mo⟩
  obtain ⟨Z, env, S, re, rs, q⟩ := h
  refine LE.of he.mo re rs q (fun d S1 v H1 q1 a1 r1 => ?_) fun x S1 c dx H1 q1 a1 r1 => q1 c dx H1 a1 r1
  cases d <;> first | exact q1.elim | skip
  · obtain ⟨a, vs, rfl, hq, rl⟩ := r1.sqT
    exact ⟨a, vs, rfl, .inr ⟨hq, q1 _ H1 a1 (wk_enum_of rl walk_enumT fun S' H' st => st.sqT a1.rs hq)⟩⟩
  · cases r1 with
    | lst h1 h2 _ h4 => exact ⟨_, _, rfl, .inl ⟨.inl h1, q1 _ H1 a1 (wk_enum_of h4 walk_enum fun S' H' st => .inl (st.rdL h1 h2).1)⟩⟩
    | lstK h1 h4 => exact ⟨_, _, rfl, .inl ⟨SqL.ofK h1, q1 _ H1 a1 (wk_enum_of h4 walk_enum fun S' H' st => SqL.ofK h1)⟩⟩
theorem ji_zip {e f : Expr} {te tf : TEd} {p pos tpos : Pos} {elts : List Expr} {kk : Nat} (c : JC P w K mg base N sc vw k X W) (hx : ("zip" : Str) ∈ vw.gs) (hm : mg "zip" = none) (he : JE X W e te) (hf : JE X W f tf) (hs : starEach [e, f] X.env = (false, eval e X.env) :: starEach [f] X.env := by rfl) (hs2 : starEach [f] X.env = (false, eval f X.env) :: starEach [] X.env := by rfl) (hpl : (backTo pos (starEach [f] X.env)).any (·.1) = false := by rfl) : JI X W (.Tuple elts kk tpos) (.Call (.Name "zip" p) [e, f] [] pos) (iZipD te tf) := by
  have ja := ja_cons he (ja_cons hf (ja_nil (X := X) (W := W)) hs2) hs
  refine ⟨⟨fun pins s σ H R I h => (RZ.pi_zipA (c.gl hx) (by rw [c.gg]; exact hm) ja.pa hs hpl).run pins s σ H R I ?_⟩, moZipD he.mo hf.mo⟩
  obtain ⟨Z, env, S, re, rs, q⟩ := h
  refine ⟨Z, env, S, re, rs, he.mo _ _ _ _ _ _ (fun x S1 q1 => hf.mo _ _ _ _ _ _ (fun y S2 q2 vs H2 a r => ?_) (fun _ _ z => z) q1) (fun _ _ z => z) q⟩
  obtain ⟨v, u, rfl, r1, r2⟩ := r.two
  unfold zipK at q2
  split at q2 <;> first | exact q2.elim | skip
  · obtain ⟨l, vs, rfl, hq, rl⟩ := r1.sqT
    obtain ⟨m, us, rfl, hq2, rl2⟩ := r2.sqT
    exact ⟨l, m, vs, us, rfl, .inr ⟨hq, hq2, q2 _ H2 a (wk_zip_of rl rl2 (walk_zipT rfl) fun S' H' st => ⟨st.sqT a.rs hq, st.sqT a.rs hq2⟩)⟩⟩
  · have G : ∀ {d : List D} {v : V}, Rp ⟨X.K, Z⟩ S2 H2 (.lst d) v → ∃ l vs, v = .ref l ∧ RpL ⟨X.K, Z⟩ S2 H2 d vs ∧ SqL X.K H2 l vs ∧ ∀ S' H', Step S2 H2 S' H' → SqL X.K H' l vs := fun r => by
      cases r with
      | lst h1 h2 _ h4 => exact ⟨_, _, rfl, h4, .inl h1, fun S' H' st => .inl (st.rdL h1 h2).1⟩
      | lstK h1 h4 => exact ⟨_, _, rfl, h4, SqL.ofK h1, fun S' H' st => SqL.ofK h1⟩
    obtain ⟨l, vs, rfl, rl, hq, g1⟩ := G r1
    obtain ⟨m, us, rfl, rl2, hq2, g2⟩ := G r2
    exact ⟨l, m, vs, us, rfl, .inl ⟨hq, hq2, q2 _ H2 a (wk_zip_of rl rl2 (walk_zip rfl) fun S' H' st => ⟨g1 S' H' st, g2 S' H' st⟩)⟩⟩
end
end Bl

/-! {"..": x, ..}.get(k, y) -/
namespace Bl
open PySem PySem.Spec PyProof.Rows L2
section
variable {K : Kz} {S : Sto} {H : Hp} {p : Addr} {ks ls : List (Key × V)}
mutual
theorem Rp.dk (hp : H p = some (.dK ks)) : ∀ (d : D) (v : V), Rp K S H d v → Rp K S (upd H p (.dK ls)) d v
  | .non, _, h => by cases h; exact .non
  | .bl b, _, h => by cases h; exact .bl b
  | .int i, _, h => by cases h; exact .int i
  | .str x, _, h => by cases h; exact .str x
  | .tup ds, _, h => by
    cases h with
    | tup hs ha =>
      refine .tup ?_ (RpL.dk hp ds _ ha)
      rcases hs with (h | ⟨o, h⟩) | h
      · exact .inl (.inl (by rw [upd_ne (ne_of h hp (by intro z; cases z))]; exact h))
      · exact .inl (.inr ⟨o, by rw [upd_ne (ne_of h hp (by intro z; cases z))]; exact h⟩)
      · exact .inr h
  | .lst ds, _, h => by
    cases h with
    | lst hs hn hz ha =>
      refine .lst ?_ hn hz (RpL.dk hp ds _ ha)
      rcases hs with h | ⟨o, h⟩
      · exact .inl (by rw [upd_ne (ne_of h hp (by intro z; cases z))]; exact h)
      · exact .inr ⟨o, by rw [upd_ne (ne_of h hp (by intro z; cases z))]; exact h⟩
    | lstK hs ha => exact .lstK hs (RpL.dk hp ds _ ha)
  | .ref a, _, h => by cases h; exact .ref a
  | .obj a, _, h => by cases h; exact .obj a
theorem RpL.dk (hp : H p = some (.dK ks)) : ∀ (ds : List D) (vs : List V), RpL K S H ds vs → RpL K S (upd H p (.dK ls)) ds vs
  | [], _, h => by cases h; exact .nil
  | d :: ds, _, h => by
    cases h with
    | cons h1 h2 => exact .cons (Rp.dk hp d _ h1) (RpL.dk hp ds _ h2)
end
theorem RS.dk (hp : H p = some (.dK ks)) (rs : RS K S H) : RS K S (upd H p (.dK ls)) := by
  refine ⟨fun a ds e => ?_, fun b hb => ?_⟩
  · obtain ⟨vs, q, r⟩ := rs.at_ a ds e
    exact ⟨vs, by rw [upd_ne (ne_of q hp (by intro z; cases z))]; exact q, RpL.dk hp _ _ r⟩
  · obtain ⟨n, vs, q⟩ := rs.hid b hb
    exact ⟨n, vs, by rw [upd_ne (ne_of q hp (by intro z; cases z))]; exact q⟩
end
/-- a display with texts as keys: the values -/
def lookD : List Str → List D → Str → Option D
  | k :: ks, d :: ds, x => if x = k then some d else lookD ks ds x
  | _, _, _ => none
def dGetL (ks : List Str) (ta : TAd) (ty tx : TEd) : TEd := fun env S Q E => ta env S (fun ds S1 => ds.length = ks.length ∧ ty env S1 (fun y S2 => tx env S2 (fun z S3 => match y with
  | .str x => Q ((lookD ks ds x).getD z) S3
  | _ => False) E) E) E
theorem moGetL {ks : List Str} {ta : TAd} {ty tx : TEd} (h1 : MoE ta) (h2 : MoE ty) (h3 : MoE tx) : MoE (dGetL ks ta ty tx) := fun env S Q Q' E E' h he q => h1 _ _ _ _ _ _ (fun ds S1 q1 => ⟨q1.1, h2 _ _ _ _ _ _ (fun y S2 q2 => h3 _ _ _ _ _ _ (fun z S3 q3 => by
  cases y <;> first | exact h _ _ q3 | exact q3) he q2) he q1.2⟩) he q
/-- the pairs of a display: constant keys, values -/
structure PDs (X : Cx) (W : WX) (pos : Pos) (keys : List (Option Expr)) (values : List Expr) (ks : List Str) (ta : TAd) : Prop where
  pp : ∃ trs, PPs X pos keys values trs ∧ ∀ Z env S σ H (Q : List (V × V) → Hp → Prop), RE ⟨X.K, Z⟩ S H env σ → RS ⟨X.K, Z⟩ S H → ta env S (fun ds S' => ∀ vs H', Aft ⟨X.K, Z⟩ S H S' H' → RpL ⟨X.K, Z⟩ S' H' ds vs → vs.length = ks.length ∧ Q ((ks.zip vs).map fun q => (V.str q.1, q.2)) H') (PX ⟨X.K, Z⟩ S H σ W) → tPairs trs σ H Q
  mo : MoE ta
end Bl

namespace Ld.K18
open PySem PySem.Spec PyProof.Rows L2 Bl
def top (i : Nat) : Stmt := PySem.Challenge.pw_bendlands_k18_distances_kept.main.body.getD i (.Pass ⟨0, 0, 0, 0⟩)
abbrev nm_from_frac : List Str := ["one"]
abbrev vw_from_frac : Vw := ⟨[0], [0], [], ["ZERO"]⟩
theorem fs_from_frac : FnScope nm_from_frac ["one"] (defScope (top 18)) := ⟨rfl, rfl, rfl, by decide +kernel, rfl, by decide +kernel, by decide +kernel⟩
theorem sc_from_frac : Sc nm_from_frac (defScope (top 18)) vw_from_frac := scOf (by decide +kernel)
def d_from_frac : He.DefD := ⟨("from_frac", none), "from_frac", "from_frac", defArgs (top 18), defBody (top 18), defScope (top 18), [], []⟩
abbrev nm_whole_root : List Str := ["number", "found"]
abbrev vw_whole_root : Vw := ⟨[0, 1], [0, 1], [], []⟩
theorem fs_whole_root : FnScope nm_whole_root ["number"] (defScope (top 11)) := ⟨rfl, rfl, rfl, by decide +kernel, rfl, by decide +kernel, by decide +kernel⟩
theorem sc_whole_root : Sc nm_whole_root (defScope (top 11)) vw_whole_root := scOf (by decide +kernel)
def d_whole_root : He.DefD := ⟨("whole_root", none), "whole_root", "whole_root", defArgs (top 11), defBody (top 11), defScope (top 11), [], []⟩
abbrev nm_far_square : List Str := ["one", "other"]
abbrev vw_far_square : Vw := ⟨[0, 1], [0, 1], [], []⟩
theorem fs_far_square : FnScope nm_far_square ["one", "other"] (defScope (top 20)) := ⟨rfl, rfl, rfl, by decide +kernel, rfl, by decide +kernel, by decide +kernel⟩
theorem sc_far_square : Sc nm_far_square (defScope (top 20)) vw_far_square := scOf (by decide +kernel)
def d_far_square : He.DefD := ⟨("far_square", none), "far_square", "far_square", defArgs (top 20), defBody (top 20), defScope (top 20), [], []⟩
abbrev nm_step_from : List Str := ["one", "other"]
abbrev vw_step_from : Vw := ⟨[0, 1], [0, 1], [], []⟩
theorem fs_step_from : FnScope nm_step_from ["one", "other"] (defScope (top 23)) := ⟨rfl, rfl, rfl, by decide +kernel, rfl, by decide +kernel, by decide +kernel⟩
theorem sc_step_from : Sc nm_step_from (defScope (top 23)) vw_step_from := scOf (by decide +kernel)
def d_step_from : He.DefD := ⟨("step_from", none), "step_from", "step_from", defArgs (top 23), defBody (top 23), defScope (top 23), [], []⟩
abbrev nm_common : List Str := ["one", "other"]
abbrev vw_common : Vw := ⟨[0, 1], [0, 1], [], ["abs"]⟩
theorem fs_common : FnScope nm_common ["one", "other"] (defScope (top 6)) := ⟨rfl, rfl, rfl, by decide +kernel, rfl, by decide +kernel, by decide +kernel⟩
theorem sc_common : Sc nm_common (defScope (top 6)) vw_common := scOf (by decide +kernel)
def d_common : He.DefD := ⟨("common", none), "common", "common", defArgs (top 6), defBody (top 6), defScope (top 6), [], []⟩
abbrev nm_lowest : List Str := ["direction", "by"]
abbrev vw_lowest : Vw := ⟨[0, 1], [0, 1], [], ["common"]⟩
theorem fs_lowest : FnScope nm_lowest ["direction"] (defScope (top 24)) := ⟨rfl, rfl, rfl, by decide +kernel, rfl, by decide +kernel, by decide +kernel⟩
theorem sc_lowest : Sc nm_lowest (defScope (top 24)) vw_lowest := scOf (by decide +kernel)
def d_lowest : He.DefD := ⟨("lowest", none), "lowest", "lowest", defArgs (top 24), defBody (top 24), defScope (top 24), [], []⟩
abbrev nm_outward : List Str := ["a", "b", "x", "y"]
abbrev vw_outward : Vw := ⟨[0, 1, 2, 3], [0, 1, 2, 3], [], ["step_from", "lowest"]⟩
theorem fs_outward : FnScope nm_outward ["a", "b"] (defScope (top 25)) := ⟨rfl, rfl, rfl, by decide +kernel, rfl, by decide +kernel, by decide +kernel⟩
theorem sc_outward : Sc nm_outward (defScope (top 25)) vw_outward := scOf (by decide +kernel)
def d_outward : He.DefD := ⟨("outward", none), "outward", "outward", defArgs (top 25), defBody (top 25), defScope (top 25), [], []⟩
abbrev nm_faces : List Str := ["thing", "word", "points", "centres", "p", "q", "out", "near", "centre", "first", "last", "arc"]
abbrev vw_faces : Vw := ⟨[0, 1, 2, 3, 4, 5, 6, 7, 8, 9, 10, 11], [0, 1, 2, 3, 4, 5, 6, 7, 8, 9, 10, 11], [], ["outward", "lowest", "step_from", "whole_root", "far_square"]⟩
theorem fs_faces : FnScope nm_faces ["thing"] (defScope (top 26)) := ⟨rfl, rfl, rfl, by decide +kernel, rfl, by decide +kernel, by decide +kernel⟩
theorem sc_faces : Sc nm_faces (defScope (top 26)) vw_faces := scOf (by decide +kernel)
def d_faces : He.DefD := ⟨("faces", none), "faces", "faces", defArgs (top 26), defBody (top 26), defScope (top 26), [], []⟩
abbrev nm_as_place : List Str := ["spot", ".0", "one"]
abbrev vw_as_place : Vw := ⟨[0], [0], [], ["tuple"]⟩
abbrev vb0_as_place : Vw := ⟨[1, 2], [1, 2], [], ["isinstance", "tuple"]⟩
theorem fs_as_place : FnScope nm_as_place ["spot"] (defScope (top 10)) := ⟨rfl, rfl, rfl, by decide +kernel, rfl, by decide +kernel, by decide +kernel⟩
theorem sc_as_place : Sc nm_as_place (defScope (top 10)) vw_as_place := scOf (by decide +kernel)
def d_as_place : He.DefD := ⟨("as_place", none), "as_place", "as_place", defArgs (top 10), defBody (top 10), defScope (top 10), [], []⟩
abbrev nm_scale_of : List Str := ["places", "by", "x", "y", "bottom"]
abbrev vw_scale_of : Vw := ⟨[0, 1, 2, 3, 4], [0, 1, 2, 3, 4], [], ["common"]⟩
theorem fs_scale_of : FnScope nm_scale_of ["places"] (defScope (top 13)) := ⟨rfl, rfl, rfl, by decide +kernel, rfl, by decide +kernel, by decide +kernel⟩
theorem sc_scale_of : Sc nm_scale_of (defScope (top 13)) vw_scale_of := scOf (by decide +kernel)
def d_scale_of : He.DefD := ⟨("scale_of", none), "scale_of", "scale_of", defArgs (top 13), defBody (top 13), defScope (top 13), [], []⟩
abbrev nm_whole_place : List Str := ["place", "x", "y", "by"]
abbrev vw_whole_place : Vw := ⟨[0, 1, 2, 3], [0, 1, 2, 3], [], ["as_place", "scale_of"]⟩
theorem fs_whole_place : FnScope nm_whole_place ["place"] (defScope (top 30)) := ⟨rfl, rfl, rfl, by decide +kernel, rfl, by decide +kernel, by decide +kernel⟩
theorem sc_whole_place : Sc nm_whole_place (defScope (top 30)) vw_whole_place := scOf (by decide +kernel)
def d_whole_place : He.DefD := ⟨("whole_place", none), "whole_place", "whole_place", defArgs (top 30), defBody (top 30), defScope (top 30), [], []⟩
abbrev nm_dot_of : List Str := ["one", "other"]
abbrev vw_dot_of : Vw := ⟨[0, 1], [0, 1], [], []⟩
theorem fs_dot_of : FnScope nm_dot_of ["one", "other"] (defScope (top 22)) := ⟨rfl, rfl, rfl, by decide +kernel, rfl, by decide +kernel, by decide +kernel⟩
theorem sc_dot_of : Sc nm_dot_of (defScope (top 22)) vw_dot_of := scOf (by decide +kernel)
def d_dot_of : He.DefD := ⟨("dot_of", none), "dot_of", "dot_of", defArgs (top 22), defBody (top 22), defScope (top 22), [], []⟩
abbrev nm_cross_of : List Str := ["one", "other"]
abbrev vw_cross_of : Vw := ⟨[0, 1], [0, 1], [], []⟩
theorem fs_cross_of : FnScope nm_cross_of ["one", "other"] (defScope (top 21)) := ⟨rfl, rfl, rfl, by decide +kernel, rfl, by decide +kernel, by decide +kernel⟩
theorem sc_cross_of : Sc nm_cross_of (defScope (top 21)) vw_cross_of := scOf (by decide +kernel)
def d_cross_of : He.DefD := ⟨("cross_of", none), "cross_of", "cross_of", defArgs (top 21), defBody (top 21), defScope (top 21), [], []⟩
abbrev nm_is_out : List Str := ["face", "direction", "first", "last"]
abbrev vw_is_out : Vw := ⟨[0, 1, 2, 3], [0, 1, 2, 3], [], ["cross_of"]⟩
theorem fs_is_out : FnScope nm_is_out ["face", "direction"] (defScope (top 28)) := ⟨rfl, rfl, rfl, by decide +kernel, rfl, by decide +kernel, by decide +kernel⟩
theorem sc_is_out : Sc nm_is_out (defScope (top 28)) vw_is_out := scOf (by decide +kernel)
def d_is_out : He.DefD := ⟨("is_out", none), "is_out", "is_out", defArgs (top 28), defBody (top 28), defScope (top 28), [], []⟩
abbrev nm_steps_from : List Str := ["spot", "here"]
abbrev vw_steps_from : Vw := ⟨[0, 1], [0, 1], [], []⟩
theorem fs_steps_from : FnScope nm_steps_from ["spot", "here"] (defScope (top 31)) := ⟨rfl, rfl, rfl, by decide +kernel, rfl, by decide +kernel, by decide +kernel⟩
theorem sc_steps_from : Sc nm_steps_from (defScope (top 31)) vw_steps_from := scOf (by decide +kernel)
def d_steps_from : He.DefD := ⟨("steps_from", none), "steps_from", "steps_from", defArgs (top 31), defBody (top 31), defScope (top 31), [], []⟩
abbrev nm_side_height : List Str := ["face", "here"]
abbrev vw_side_height : Vw := ⟨[0, 1], [0, 1], [], ["dot_of", "steps_from", "outward"]⟩
theorem fs_side_height : FnScope nm_side_height ["face", "here"] (defScope (top 32)) := ⟨rfl, rfl, rfl, by decide +kernel, rfl, by decide +kernel, by decide +kernel⟩
theorem sc_side_height : Sc nm_side_height (defScope (top 32)) vw_side_height := scOf (by decide +kernel)
def d_side_height : He.DefD := ⟨("side_height", none), "side_height", "side_height", defArgs (top 32), defBody (top 32), defScope (top 32), [], []⟩
abbrev nm_is_beside : List Str := ["face", "here", "ahead"]
abbrev vw_is_beside : Vw := ⟨[0, 1, 2], [0, 1, 2], [], ["step_from", "dot_of", "steps_from"]⟩
theorem fs_is_beside : FnScope nm_is_beside ["face", "here"] (defScope (top 33)) := ⟨rfl, rfl, rfl, by decide +kernel, rfl, by decide +kernel, by decide +kernel⟩
theorem sc_is_beside : Sc nm_is_beside (defScope (top 33)) vw_is_beside := scOf (by decide +kernel)
def d_is_beside : He.DefD := ⟨("is_beside", none), "is_beside", "is_beside", defArgs (top 33), defBody (top 33), defScope (top 33), [], []⟩
abbrev nm_is_spoked : List Str := ["face", "here", "word", "centre", "radius", "first", "last", "steps"]
abbrev vw_is_spoked : Vw := ⟨[0, 1, 2, 3, 4, 5, 6, 7], [0, 1, 2, 3, 4, 5, 6, 7], [], ["side_height", "is_beside", "steps_from", "dot_of", "is_out"]⟩
theorem fs_is_spoked : FnScope nm_is_spoked ["face", "here"] (defScope (top 34)) := ⟨rfl, rfl, rfl, by decide +kernel, rfl, by decide +kernel, by decide +kernel⟩
theorem sc_is_spoked : Sc nm_is_spoked (defScope (top 34)) vw_is_spoked := scOf (by decide +kernel)
def d_is_spoked : He.DefD := ⟨("is_spoked", none), "is_spoked", "is_spoked", defArgs (top 34), defBody (top 34), defScope (top 34), [], []⟩
abbrev nm_faces_at : List Str := ["thing", "place", "here", ".0", "number", "face"]
abbrev vw_faces_at : Vw := ⟨[0, 1, 2], [0, 1], [2], ["whole_place", "tuple", "enumerate", "faces"]⟩
abbrev vb0_faces_at : Vw := ⟨[2, 3, 4, 5], [3, 4, 5], [2], ["is_spoked"]⟩
theorem fs_faces_at : FnScope nm_faces_at ["thing", "place"] (defScope (top 35)) := ⟨rfl, rfl, rfl, by decide +kernel, rfl, by decide +kernel, by decide +kernel⟩
theorem sc_faces_at : Sc nm_faces_at (defScope (top 35)) vw_faces_at := scOf (by decide +kernel)
def d_faces_at : He.DefD := ⟨("faces_at", none), "faces_at", "faces_at", defArgs (top 35), defBody (top 35), defScope (top 35), [], []⟩
abbrev nm_frac : List Str := ["top", "bottom", "sign", "e", "by"]
abbrev vw_frac : Vw := ⟨[0, 1, 2, 3, 4], [0, 1, 2, 3, 4], [], ["abs", "ZeroDivisionError", "NoFraction", "common"]⟩
theorem fs_frac : FnScope nm_frac ["top", "bottom"] (defScope (top 7)) := ⟨rfl, rfl, rfl, by decide +kernel, rfl, by decide +kernel, by decide +kernel⟩
theorem sc_frac : Sc nm_frac (defScope (top 7)) vw_frac := scOf (by decide +kernel)
def d_frac : He.DefD := ⟨("frac", none), "frac", "frac", defArgs (top 7), defBody (top 7), defScope (top 7), [.int 1], []⟩
abbrev nm_plus : List Str := ["one", "other"]
abbrev vw_plus : Vw := ⟨[0, 1], [0, 1], [], ["frac"]⟩
theorem fs_plus : FnScope nm_plus ["one", "other"] (defScope (top 8)) := ⟨rfl, rfl, rfl, by decide +kernel, rfl, by decide +kernel, by decide +kernel⟩
theorem sc_plus : Sc nm_plus (defScope (top 8)) vw_plus := scOf (by decide +kernel)
def d_plus : He.DefD := ⟨("plus", none), "plus", "plus", defArgs (top 8), defBody (top 8), defScope (top 8), [], []⟩
abbrev nm_is_square : List Str := ["number"]
abbrev vw_is_square : Vw := ⟨[0], [0], [], ["whole_root"]⟩
theorem fs_is_square : FnScope nm_is_square ["number"] (defScope (top 12)) := ⟨rfl, rfl, rfl, by decide +kernel, rfl, by decide +kernel, by decide +kernel⟩
theorem sc_is_square : Sc nm_is_square (defScope (top 12)) vw_is_square := scOf (by decide +kernel)
def d_is_square : He.DefD := ⟨("is_square", none), "is_square", "is_square", defArgs (top 12), defBody (top 12), defScope (top 12), [], []⟩
abbrev nm_root : List Str := ["base", "sign", "square"]
abbrev vw_root : Vw := ⟨[0, 1, 2], [0, 1, 2], [], ["NoRoot", "ZERO", "is_square", "plus", "whole_root"]⟩
theorem fs_root : FnScope nm_root ["base", "sign", "square"] (defScope (top 15)) := ⟨rfl, rfl, rfl, by decide +kernel, rfl, by decide +kernel, by decide +kernel⟩
theorem sc_root : Sc nm_root (defScope (top 15)) vw_root := scOf (by decide +kernel)
def d_root : He.DefD := ⟨("root", none), "root", "root", defArgs (top 15), defBody (top 15), defScope (top 15), [], []⟩
abbrev nm_length_of : List Str := ["direction"]
abbrev vw_length_of : Vw := ⟨[0], [0], [], ["whole_root", "dot_of"]⟩
theorem fs_length_of : FnScope nm_length_of ["direction"] (defScope (top 27)) := ⟨rfl, rfl, rfl, by decide +kernel, rfl, by decide +kernel, by decide +kernel⟩
theorem sc_length_of : Sc nm_length_of (defScope (top 27)) vw_length_of := scOf (by decide +kernel)
def d_length_of : He.DefD := ⟨("length_of", none), "length_of", "length_of", defArgs (top 27), defBody (top 27), defScope (top 27), [], []⟩
abbrev nm_face_distance : List Str := ["face", "here", "steps"]
abbrev vw_face_distance : Vw := ⟨[0, 1, 2], [0, 1, 2], [], ["from_frac", "frac", "side_height", "length_of", "outward", "steps_from", "root", "dot_of"]⟩
theorem fs_face_distance : FnScope nm_face_distance ["face", "here"] (defScope (top 36)) := ⟨rfl, rfl, rfl, by decide +kernel, rfl, by decide +kernel, by decide +kernel⟩
theorem sc_face_distance : Sc nm_face_distance (defScope (top 36)) vw_face_distance := scOf (by decide +kernel)
def d_face_distance : He.DefD := ⟨("face_distance", none), "face_distance", "face_distance", defArgs (top 36), defBody (top 36), defScope (top 36), [], []⟩
abbrev nm_distance : List Str := ["thing", "place", "at"]
abbrev vw_distance : Vw := ⟨[0, 1, 2], [0, 1, 2], [], ["faces_at", "from_frac", "ZERO", "face_distance", "faces", "whole_place"]⟩
theorem fs_distance : FnScope nm_distance ["thing", "place"] (defScope (top 37)) := ⟨rfl, rfl, rfl, by decide +kernel, rfl, by decide +kernel, by decide +kernel⟩
theorem sc_distance : Sc nm_distance (defScope (top 37)) vw_distance := scOf (by decide +kernel)
def d_distance : He.DefD := ⟨("distance", none), "distance", "distance", defArgs (top 37), defBody (top 37), defScope (top 37), [], []⟩
abbrev nm_sign_of : List Str := ["number"]
abbrev vw_sign_of : Vw := ⟨[0], [0], [], ["int"]⟩
theorem fs_sign_of : FnScope nm_sign_of ["number"] (defScope (top 9)) := ⟨rfl, rfl, rfl, by decide +kernel, rfl, by decide +kernel, by decide +kernel⟩
theorem sc_sign_of : Sc nm_sign_of (defScope (top 9)) vw_sign_of := scOf (by decide +kernel)
def d_sign_of : He.DefD := ⟨("sign_of", none), "sign_of", "sign_of", defArgs (top 9), defBody (top 9), defScope (top 9), [], []⟩
abbrev nm_field_sign : List Str := ["top", "beside", "h"]
abbrev vw_field_sign : Vw := ⟨[0, 1, 2], [0, 1, 2], [], ["sign_of"]⟩
theorem fs_field_sign : FnScope nm_field_sign ["top", "beside", "h"] (defScope (top 16)) := ⟨rfl, rfl, rfl, by decide +kernel, rfl, by decide +kernel, by decide +kernel⟩
theorem sc_field_sign : Sc nm_field_sign (defScope (top 16)) vw_field_sign := scOf (by decide +kernel)
def d_field_sign : He.DefD := ⟨("field_sign", none), "field_sign", "field_sign", defArgs (top 16), defBody (top 16), defScope (top 16), [], []⟩
abbrev nm_root_sign : List Str := ["one", "base", "sign", "square", "scale"]
abbrev vw_root_sign : Vw := ⟨[0, 1, 2, 3, 4], [0, 1, 2, 3, 4], [], ["field_sign"]⟩
theorem fs_root_sign : FnScope nm_root_sign ["one"] (defScope (top 17)) := ⟨rfl, rfl, rfl, by decide +kernel, rfl, by decide +kernel, by decide +kernel⟩
theorem sc_root_sign : Sc nm_root_sign (defScope (top 17)) vw_root_sign := scOf (by decide +kernel)
def d_root_sign : He.DefD := ⟨("root_sign", none), "root_sign", "root_sign", defArgs (top 17), defBody (top 17), defScope (top 17), [], []⟩
abbrev nm_against : List Str := ["direction"]
abbrev vw_against : Vw := ⟨[0], [0], [], []⟩
theorem fs_against : FnScope nm_against ["direction"] (defScope (top 38)) := ⟨rfl, rfl, rfl, by decide +kernel, rfl, by decide +kernel, by decide +kernel⟩
theorem sc_against : Sc nm_against (defScope (top 38)) vw_against := scOf (by decide +kernel)
def d_against : He.DefD := ⟨("against", none), "against", "against", defArgs (top 38), defBody (top 38), defScope (top 38), [], []⟩
abbrev nm_rounds_apart : List Str := ["one", "other", "steps"]
abbrev vw_rounds_apart : Vw := ⟨[0, 1, 2], [0, 1, 2], [], ["step_from", "is_out", "against", "root", "dot_of"]⟩
theorem fs_rounds_apart : FnScope nm_rounds_apart ["one", "other"] (defScope (top 39)) := ⟨rfl, rfl, rfl, by decide +kernel, rfl, by decide +kernel, by decide +kernel⟩
theorem sc_rounds_apart : Sc nm_rounds_apart (defScope (top 39)) vw_rounds_apart := scOf (by decide +kernel)
def d_rounds_apart : He.DefD := ⟨("rounds_apart", none), "rounds_apart", "rounds_apart", defArgs (top 39), defBody (top 39), defScope (top 39), [], []⟩
abbrev nm_side_apart : List Str := ["side", "other", "out", "here"]
abbrev vw_side_apart : Vw := ⟨[0, 1, 2, 3], [0, 1, 2, 3], [], ["outward", "is_beside", "is_out", "against", "from_frac", "frac", "side_height", "length_of"]⟩
theorem fs_side_apart : FnScope nm_side_apart ["side", "other"] (defScope (top 40)) := ⟨rfl, rfl, rfl, by decide +kernel, rfl, by decide +kernel, by decide +kernel⟩
theorem sc_side_apart : Sc nm_side_apart (defScope (top 40)) vw_side_apart := scOf (by decide +kernel)
def d_side_apart : He.DefD := ⟨("side_apart", none), "side_apart", "side_apart", defArgs (top 40), defBody (top 40), defScope (top 40), [], []⟩
abbrev nm_faces_apart : List Str := ["one", "other"]
abbrev vw_faces_apart : Vw := ⟨[0, 1], [0, 1], [], ["side_apart", "rounds_apart"]⟩
theorem fs_faces_apart : FnScope nm_faces_apart ["one", "other"] (defScope (top 41)) := ⟨rfl, rfl, rfl, by decide +kernel, rfl, by decide +kernel, by decide +kernel⟩
theorem sc_faces_apart : Sc nm_faces_apart (defScope (top 41)) vw_faces_apart := scOf (by decide +kernel)
def d_faces_apart : He.DefD := ⟨("faces_apart", none), "faces_apart", "faces_apart", defArgs (top 41), defBody (top 41), defScope (top 41), [], []⟩
abbrev nm_apart : List Str := ["one", "other", "face", "second", "found"]
abbrev vw_apart : Vw := ⟨[0, 1, 2, 3, 4], [0, 1, 2, 3, 4], [], ["faces", "faces_apart", "root_sign", "from_frac", "ZERO"]⟩
theorem fs_apart : FnScope nm_apart ["one", "other"] (defScope (top 42)) := ⟨rfl, rfl, rfl, by decide +kernel, rfl, by decide +kernel, by decide +kernel⟩
theorem sc_apart : Sc nm_apart (defScope (top 42)) vw_apart := scOf (by decide +kernel)
def d_apart : He.DefD := ⟨("apart", none), "apart", "apart", defArgs (top 42), defBody (top 42), defScope (top 42), [], []⟩
abbrev nm_l_bag : List Str := ["_law_script", "_law_at", "_law_cell", "_law_great", "_law_primes"]
abbrev vw_l_bag : Vw := ⟨[0, 1, 2, 3, 4], [0, 1, 2, 3, 4], [], ["len", "abs"]⟩
theorem fs_l_bag : FnScope nm_l_bag ["_law_script", "_law_at"] (defScope (top 44)) := ⟨rfl, rfl, rfl, by decide +kernel, rfl, by decide +kernel, by decide +kernel⟩
theorem sc_l_bag : Sc nm_l_bag (defScope (top 44)) vw_l_bag := scOf (by decide +kernel)
def d_l_bag : He.DefD := ⟨("_law_bag", none), "_law_bag", "_law_bag", defArgs (top 44), defBody (top 44), defScope (top 44), [], []⟩
abbrev nm_l_take : List Str := ["_law_bag_here", "_law_many", "_law_digit"]
abbrev vw_l_take : Vw := ⟨[0, 1, 2], [0, 1, 2], [], []⟩
theorem fs_l_take : FnScope nm_l_take ["_law_bag_here", "_law_many"] (defScope (top 45)) := ⟨rfl, rfl, rfl, by decide +kernel, rfl, by decide +kernel, by decide +kernel⟩
theorem sc_l_take : Sc nm_l_take (defScope (top 45)) vw_l_take := scOf (by decide +kernel)
def d_l_take : He.DefD := ⟨("_law_take", none), "_law_take", "_law_take", defArgs (top 45), defBody (top 45), defScope (top 45), [], []⟩
abbrev nm_l_turned : List Str := ["_law_spot", "_law_many", "_law_x", "_law_y", "_law_turn"]
abbrev vw_l_turned : Vw := ⟨[0, 1, 2, 3, 4], [0, 1, 2, 3, 4], [], ["range"]⟩
theorem fs_l_turned : FnScope nm_l_turned ["_law_spot", "_law_many"] (defScope (top 46)) := ⟨rfl, rfl, rfl, by decide +kernel, rfl, by decide +kernel, by decide +kernel⟩
theorem sc_l_turned : Sc nm_l_turned (defScope (top 46)) vw_l_turned := scOf (by decide +kernel)
def d_l_turned : He.DefD := ⟨("_law_turned", none), "_law_turned", "_law_turned", defArgs (top 46), defBody (top 46), defScope (top 46), [], []⟩
abbrev nm_l_thing : List Str := ["_law_bag_here", "_law_wide", "_law_way", "_law_size", "_law_quarter", "_law_at", "_law_longs", "_law_arcs", "_law_some", "_law_points", "_law_spot", "_law_x", "_law_y"]
abbrev vw_l_thing : Vw := ⟨[0, 1, 2, 3, 4, 5, 6, 7, 8, 9, 10, 11, 12], [0, 1, 2, 3, 4, 5, 6, 7, 8, 9, 10, 11, 12], [], ["_law_take", "list", "_law_turned"]⟩
theorem fs_l_thing : FnScope nm_l_thing ["_law_bag_here", "_law_wide", "_law_way"] (defScope (top 47)) := ⟨rfl, rfl, rfl, by decide +kernel, rfl, by decide +kernel, by decide +kernel⟩
theorem sc_l_thing : Sc nm_l_thing (defScope (top 47)) vw_l_thing := scOf (by decide +kernel)
def d_l_thing : He.DefD := ⟨("_law_thing", none), "_law_thing", "_law_thing", defArgs (top 47), defBody (top 47), defScope (top 47), [], []⟩
abbrev nm_l_low : List Str := ["_law_top", "_law_bottom", "_law_one", "_law_other"]
abbrev vw_l_low : Vw := ⟨[0, 1, 2, 3], [0, 1, 2, 3], [], ["abs"]⟩
theorem fs_l_low : FnScope nm_l_low ["_law_top", "_law_bottom"] (defScope (top 48)) := ⟨rfl, rfl, rfl, by decide +kernel, rfl, by decide +kernel, by decide +kernel⟩
theorem sc_l_low : Sc nm_l_low (defScope (top 48)) vw_l_low := scOf (by decide +kernel)
def d_l_low : He.DefD := ⟨("_law_low", none), "_law_low", "_law_low", defArgs (top 48), defBody (top 48), defScope (top 48), [], []⟩
abbrev nm_l_part : List Str := ["_law_bag_here", "_law_wide", "_law_under"]
abbrev vw_l_part : Vw := ⟨[0, 1, 2], [0, 1, 2], [], ["_law_take", "_law_low"]⟩
theorem fs_l_part : FnScope nm_l_part ["_law_bag_here", "_law_wide"] (defScope (top 49)) := ⟨rfl, rfl, rfl, by decide +kernel, rfl, by decide +kernel, by decide +kernel⟩
theorem sc_l_part : Sc nm_l_part (defScope (top 49)) vw_l_part := scOf (by decide +kernel)
def d_l_part : He.DefD := ⟨("_law_part", none), "_law_part", "_law_part", defArgs (top 49), defBody (top 49), defScope (top 49), [], []⟩
abbrev nm_l_sum : List Str := ["_law_one", "_law_other"]
abbrev vw_l_sum : Vw := ⟨[0, 1], [0, 1], [], ["_law_low"]⟩
theorem fs_l_sum : FnScope nm_l_sum ["_law_one", "_law_other"] (defScope (top 51)) := ⟨rfl, rfl, rfl, by decide +kernel, rfl, by decide +kernel, by decide +kernel⟩
theorem sc_l_sum : Sc nm_l_sum (defScope (top 51)) vw_l_sum := scOf (by decide +kernel)
def d_l_sum : He.DefD := ⟨("_law_sum", none), "_law_sum", "_law_sum", defArgs (top 51), defBody (top 51), defScope (top 51), [], []⟩
abbrev nm_l_place : List Str := ["_law_bag_here", "_law_wide", "_law_things", "_law_way", "_law_place_here", "_law_thing_here", "_law_spots", "_law_one", "_law_other", "_law_many", "_law_found", "_law_a", "_law_b", "_law_beside"]
abbrev vw_l_place : Vw := ⟨[0, 1, 2, 3, 4, 5, 6, 7, 8, 9, 10, 11, 12, 13], [0, 1, 2, 3, 4, 5, 6, 7, 8, 9, 10, 11, 12, 13], [], ["_law_take", "_law_part", "len", "zip", "_law_low", "_law_sum"]⟩
theorem fs_l_place : FnScope nm_l_place ["_law_bag_here", "_law_wide", "_law_things"] (defScope (top 50)) := ⟨rfl, rfl, rfl, by decide +kernel, rfl, by decide +kernel, by decide +kernel⟩
theorem sc_l_place : Sc nm_l_place (defScope (top 50)) vw_l_place := scOf (by decide +kernel)
def d_l_place : He.DefD := ⟨("_law_place", none), "_law_place", "_law_place", defArgs (top 50), defBody (top 50), defScope (top 50), [], []⟩
abbrev nm_l_more : List Str := ["_law_one", "_law_many"]
abbrev vw_l_more : Vw := ⟨[0, 1], [0, 1], [], ["isinstance", "int"]⟩
theorem fs_l_more : FnScope nm_l_more ["_law_one", "_law_many"] (defScope (top 59)) := ⟨rfl, rfl, rfl, by decide +kernel, rfl, by decide +kernel, by decide +kernel⟩
theorem sc_l_more : Sc nm_l_more (defScope (top 59)) vw_l_more := scOf (by decide +kernel)
def d_l_more : He.DefD := ⟨("_law_more", none), "_law_more", "_law_more", defArgs (top 59), defBody (top 59), defScope (top 59), [], []⟩
abbrev nm_l_less : List Str := ["_law_one"]
abbrev vw_l_less : Vw := ⟨[0], [0], [], ["isinstance", "int"]⟩
theorem fs_l_less : FnScope nm_l_less ["_law_one"] (defScope (top 60)) := ⟨rfl, rfl, rfl, by decide +kernel, rfl, by decide +kernel, by decide +kernel⟩
theorem sc_l_less : Sc nm_l_less (defScope (top 60)) vw_l_less := scOf (by decide +kernel)
def d_l_less : He.DefD := ⟨("_law_less", none), "_law_less", "_law_less", defArgs (top 60), defBody (top 60), defScope (top 60), [], []⟩
abbrev nm_l_changed : List Str := ["_law_way", "_law_spot", "_law_step", "_law_x", "_law_y", "_law_turn"]
abbrev vw_l_changed : Vw := ⟨[0, 1, 2, 3, 4, 5], [0, 1, 2, 3, 4, 5], [], ["_law_more", "range", "_law_less"]⟩
theorem fs_l_changed : FnScope nm_l_changed ["_law_way", "_law_spot", "_law_step"] (defScope (top 58)) := ⟨rfl, rfl, rfl, by decide +kernel, rfl, by decide +kernel, by decide +kernel⟩
theorem sc_l_changed : Sc nm_l_changed (defScope (top 58)) vw_l_changed := scOf (by decide +kernel)
def d_l_changed : He.DefD := ⟨("_law_changed", none), "_law_changed", "_law_changed", defArgs (top 58), defBody (top 58), defScope (top 58), [], []⟩
abbrev nm_l_thing_changed : List Str := ["_law_way", "_law_thing_here", "_law_step", "_law_spots", ".0", "_law_spot"]
abbrev vw_l_thing_changed : Vw := ⟨[0, 1, 2, 3], [1, 3], [0, 2], ["tuple"]⟩
abbrev vb0_l_thing_changed : Vw := ⟨[0, 2, 4, 5], [4, 5], [0, 2], ["_law_changed"]⟩
theorem fs_l_thing_changed : FnScope nm_l_thing_changed ["_law_way", "_law_thing_here", "_law_step"] (defScope (top 61)) := ⟨rfl, rfl, rfl, by decide +kernel, rfl, by decide +kernel, by decide +kernel⟩
theorem sc_l_thing_changed : Sc nm_l_thing_changed (defScope (top 61)) vw_l_thing_changed := scOf (by decide +kernel)
def d_l_thing_changed : He.DefD := ⟨("_law_thing_changed", none), "_law_thing_changed", "_law_thing_changed", defArgs (top 61), defBody (top 61), defScope (top 61), [], []⟩
abbrev nm_l_rooted : List Str := ["_law_number", "_law_found"]
abbrev vw_l_rooted : Vw := ⟨[0, 1], [0, 1], [], []⟩
theorem fs_l_rooted : FnScope nm_l_rooted ["_law_number"] (defScope (top 52)) := ⟨rfl, rfl, rfl, by decide +kernel, rfl, by decide +kernel, by decide +kernel⟩
theorem sc_l_rooted : Sc nm_l_rooted (defScope (top 52)) vw_l_rooted := scOf (by decide +kernel)
def d_l_rooted : He.DefD := ⟨("_law_rooted", none), "_law_rooted", "_law_rooted", defArgs (top 52), defBody (top 52), defScope (top 52), [], []⟩
abbrev nm_l_root : List Str := ["_law_base", "_law_square", "_law_top", "_law_bottom"]
abbrev vw_l_root : Vw := ⟨[0, 1, 2, 3], [0, 1, 2, 3], [], ["_law_rooted", "_law_low"]⟩
theorem fs_l_root : FnScope nm_l_root ["_law_base", "_law_square"] (defScope (top 53)) := ⟨rfl, rfl, rfl, by decide +kernel, rfl, by decide +kernel, by decide +kernel⟩
theorem sc_l_root : Sc nm_l_root (defScope (top 53)) vw_l_root := scOf (by decide +kernel)
def d_l_root : He.DefD := ⟨("_law_root", none), "_law_root", "_law_root", defArgs (top 53), defBody (top 53), defScope (top 53), [], []⟩
abbrev nm_l_product : List Str := ["_law_one", "_law_other"]
abbrev vw_l_product : Vw := ⟨[0, 1], [0, 1], [], ["_law_low"]⟩
theorem fs_l_product : FnScope nm_l_product ["_law_one", "_law_other"] (defScope (top 54)) := ⟨rfl, rfl, rfl, by decide +kernel, rfl, by decide +kernel, by decide +kernel⟩
theorem sc_l_product : Sc nm_l_product (defScope (top 54)) vw_l_product := scOf (by decide +kernel)
def d_l_product : He.DefD := ⟨("_law_product", none), "_law_product", "_law_product", defArgs (top 54), defBody (top 54), defScope (top 54), [], []⟩
abbrev nm_l_contrary : List Str := ["_law_one"]
abbrev vw_l_contrary : Vw := ⟨[0], [0], [], []⟩
theorem fs_l_contrary : FnScope nm_l_contrary ["_law_one"] (defScope (top 55)) := ⟨rfl, rfl, rfl, by decide +kernel, rfl, by decide +kernel, by decide +kernel⟩
theorem sc_l_contrary : Sc nm_l_contrary (defScope (top 55)) vw_l_contrary := scOf (by decide +kernel)
def d_l_contrary : He.DefD := ⟨("_law_contrary", none), "_law_contrary", "_law_contrary", defArgs (top 55), defBody (top 55), defScope (top 55), [], []⟩
abbrev nm_l_are_fitting : List Str := ["_law_one", "_law_other", "_law_third", "_law_parts", "_law_root_here", "_law_scale", "_law_base", "_law_square_here"]
abbrev vw_l_are_fitting : Vw := ⟨[0, 1, 2, 3, 4, 5, 6, 7], [0, 1, 2, 3, 4, 5, 6, 7], [], ["_law_rooted"]⟩
theorem fs_l_are_fitting : FnScope nm_l_are_fitting ["_law_one", "_law_other", "_law_third"] (defScope (top 62)) := ⟨rfl, rfl, rfl, by decide +kernel, rfl, by decide +kernel, by decide +kernel⟩
theorem sc_l_are_fitting : Sc nm_l_are_fitting (defScope (top 62)) vw_l_are_fitting := scOf (by decide +kernel)
def d_l_are_fitting : He.DefD := ⟨("_law_are_fitting", none), "_law_are_fitting", "_law_are_fitting", defArgs (top 62), defBody (top 62), defScope (top 62), [], []⟩
abbrev nm_l_places_right : List Str := ["_law_one", "_law_other", "_law_places", "_law_gap_here", "_law_place_here", "_law_far", "_law_x", "_law_y", "_law_long"]
abbrev vw_l_places_right : Vw := ⟨[0, 1, 2, 3, 4, 5, 6, 7, 8], [0, 1, 2, 3, 4, 5, 6, 7, 8], [], ["apart", "distance", "faces_at", "_law_are_fitting", "_law_sum", "_law_contrary", "_law_root", "_law_product"]⟩
theorem fs_l_places_right : FnScope nm_l_places_right ["_law_one", "_law_other", "_law_places"] (defScope (top 63)) := ⟨rfl, rfl, rfl, by decide +kernel, rfl, by decide +kernel, by decide +kernel⟩
theorem sc_l_places_right : Sc nm_l_places_right (defScope (top 63)) vw_l_places_right := scOf (by decide +kernel)
def d_l_places_right : He.DefD := ⟨("_law_places_right", none), "_law_places_right", "_law_places_right", defArgs (top 63), defBody (top 63), defScope (top 63), [], []⟩
abbrev nm_law : List Str := ["_law_script", "_law_k", "_law_bag_here", "_law_one", "_law_other", "_law_places", "_law_step", "_law_way", "_law_near", "_law_far", "_law_place_here", ".0", "_law_turn"]
abbrev vw_law : Vw := ⟨[0, 1, 2, 3, 4, 5, 6, 7, 8, 9, 10], [0, 1, 5, 6, 7, 8, 9, 10], [2, 3, 4], ["range", "max", "min", "len", "_law_bag", "_law_thing", "_law_take", "_law_places_right", "_law_thing_changed", "apart", "distance", "_law_changed"]⟩
abbrev vb0_law : Vw := ⟨[2, 3, 4, 11, 12], [11, 12], [2, 3, 4], ["_law_place"]⟩
theorem fs_law : FnScope nm_law ["_law_script"] (defScope (top 64)) := ⟨rfl, rfl, rfl, by decide +kernel, rfl, by decide +kernel, by decide +kernel⟩
theorem sc_law : Sc nm_law (defScope (top 64)) vw_law := scOf (by decide +kernel)
def d_law : He.DefD := ⟨("law", none), "law", "law", defArgs (top 64), defBody (top 64), defScope (top 64), [], []⟩
def fn : List He.DefD := [d_from_frac, d_whole_root, d_far_square, d_step_from, d_common, d_lowest, d_outward, d_faces, d_as_place, d_scale_of, d_whole_place, d_dot_of, d_cross_of, d_is_out, d_steps_from, d_side_height, d_is_beside, d_is_spoked, d_faces_at, d_frac, d_plus, d_is_square, d_root, d_length_of, d_face_distance, d_distance, d_sign_of, d_field_sign, d_root_sign, d_against, d_rounds_apart, d_side_apart, d_faces_apart, d_apart, d_l_bag, d_l_take, d_l_turned, d_l_thing, d_l_low, d_l_part, d_l_sum, d_l_place, d_l_more, d_l_less, d_l_changed, d_l_thing_changed, d_l_rooted, d_l_root, d_l_product, d_l_contrary, d_l_are_fitting, d_l_places_right, d_law]
def fa : List He.Fa := [.free "range", .free "max", .free "min", .free "len", .glo "_law_bag", .glo "_law_take", .glo "_law_thing", .glo "_law_place", .glo "_law_places_right", .glo "_law_thing_changed", .glo "apart", .glo "_law_changed", .glo "distance", .glo "faces_at", .glo "ZERO", .glo "from_frac", .glo "faces", .glo "whole_place", .glo "face_distance", .glo "outward", .glo "step_from", .glo "lowest", .glo "far_square", .glo "whole_root", .glo "common", .free "abs", .glo "as_place", .glo "scale_of", .free "tuple", .free "isinstance", .free "enumerate", .glo "is_spoked", .glo "side_height", .glo "is_beside", .glo "steps_from", .glo "dot_of", .glo "is_out", .glo "cross_of", .glo "length_of", .glo "frac", .glo "root", .glo "NoRoot", .exc "NoRoot", .glo "is_square", .glo "plus", .glo "faces_apart", .glo "root_sign", .glo "field_sign", .glo "sign_of", .free "int", .glo "side_apart", .glo "rounds_apart", .glo "against", .free "list", .glo "_law_turned", .glo "_law_part", .free "zip", .glo "_law_low", .glo "_law_sum", .glo "_law_more", .glo "_law_less", .glo "_law_are_fitting", .glo "_law_contrary", .glo "_law_product", .glo "_law_root", .glo "_law_rooted", .glo "law"]
def bxl : List (PySem.W.Frag → Bool) := [fun K => tupI K "ZERO" [0, 1]]
def bx : PySem.W.Frag → Bool := fun K => bxl.all fun f => f K
def names0 : List PySem.Str := ["LandError", "NoRoot", "NoFraction", "ZERO", "common", "frac", "plus", "sign_of", "as_place", "whole_root", "is_square", "scale_of", "root", "field_sign", "root_sign", "from_frac", "far_square", "cross_of", "dot_of", "step_from", "lowest", "outward", "faces", "length_of"]
def names1 : List PySem.Str := ["is_out", "whole_place", "steps_from", "side_height", "is_beside", "is_spoked", "faces_at", "face_distance", "distance", "against", "rounds_apart", "side_apart", "faces_apart", "apart", "_law_bag", "_law_take", "_law_turned", "_law_thing", "_law_low", "_law_part", "_law_place", "_law_sum", "_law_rooted", "_law_root"]
def names2 : List PySem.Str := ["_law_product", "_law_contrary", "_law_side", "_law_compare", "_law_changed", "_law_more", "_law_less", "_law_thing_changed", "_law_are_fitting", "_law_places_right"]
def names : List PySem.Str := names0 ++ names1 ++ names2
abbrev R : PySem.W.OpenRow := PySem.W.OpenLaw.row PySem.Challenge.rw_bendlands_k18_distances_kept
abbrev hk : PySem.W.Hook := hookX 5 fa fn bx
theorem run (w : World) : HandSHeadRun.RunEq R (PySem.W.view R.prog [64]) hk (obX 5 fa fn bx) 6000 names w := by
  intro os
  kernel_rfl
end Ld.K18

namespace Lb
open PySem PySem.Spec PyProof.Rows L2 Bl
def k_ZERO : D := .tup ([0, 1].map D.int)
def g_root_sign_square {α : Type} (us ws : List α) : List α := match us, ws with
  | [a0], [b_sign, b_square] => [a0, b_sign, b_square]
  | _, _ => us ++ ws
def t_common : TSd := sSeq (sPar [0, 1] (aCons (dB bAbs (aCons (vr 0) (aNil))) (aCons (dB bAbs (aCons (vr 1) (aNil))) (aNil)))) (sSeq (sWhile (tbl (dTwo (vr 1) (cn (.int 0)) fNe)) (sPar [0, 1] (aCons (vr 1) (aCons (dTwo (vr 0) (vr 1) fMod) (aNil))))) (sRet (vr 0)))
def m_common : TFd := fnD 2 2 t_common
def t_frac : TSd := sSeq (sThru (sAsg (dTwo (vr 1) (dB bAbs (aCons (vr 1) (aNil))) fDiv) (.nm 2)) sNx) (sSeq (sAsg (dTwo (dCall m_common 2 0 (fun ds _ => ds) (aCons (vr 0) (aCons (vr 1) (aNil))) aNil) (vr 2) fMul) (.nm 4)) (sRet (dTup (aCons (dTwo (vr 0) (vr 4) fDiv) (aCons (dTwo (vr 1) (vr 4) fDiv) (aNil))))))
def m_frac : TFd := fnD 2 5 t_frac
def t_plus : TSd := sRet (dCall m_frac 2 0 (fun ds _ => ds ++ []) (aCons (dTwo (dTwo (dTwo (vr 0) (cn (.int 0)) fIx) (dTwo (vr 1) (cn (.int 1)) fIx) fMul) (dTwo (dTwo (vr 1) (cn (.int 0)) fIx) (dTwo (vr 0) (cn (.int 1)) fIx) fMul) fAdd) (aCons (dTwo (dTwo (vr 0) (cn (.int 1)) fIx) (dTwo (vr 1) (cn (.int 1)) fIx) fMul) (aNil))) aNil)
def m_plus : TFd := fnD 2 2 t_plus
def t_whole_root : TSd := sSeq (sIf (tbl (dTwo (vr 0) (cn (.int 0)) fEq)) (sRet (cn (.int 0))) (sNx)) (sSeq (sAsg (dTwo (cn (.int 1)) (dTwo (dTwo (dBits (vr 0)) (cn (.int 1)) fAdd) (cn (.int 2)) fDiv) fShl) (.nm 1)) (sSeq (sWhile (tbl (dTwo (dTwo (vr 1) (vr 1) fMul) (vr 0) fGt)) (sAsg (dTwo (dTwo (vr 1) (dTwo (vr 0) (vr 1) fDiv) fAdd) (cn (.int 2)) fDiv) (.nm 1))) (sRet (vr 1))))
def m_whole_root : TFd := fnD 1 2 t_whole_root
def t_is_square : TSd := sRet (dTwo (dTwo (dCall m_whole_root 1 0 (fun ds _ => ds) (aCons (vr 0) (aNil)) aNil) (cn (.int 2)) fPow) (vr 0) fEq)
def m_is_square : TFd := fnD 1 1 t_is_square
def t_root : TSd := sSeq (sIf (tbl (dTwo (dTwo (vr 2) (cn (.int 0)) fIx) (cn (.int 0)) fLt)) (sRaise "NoRoot") (sNx)) (sSeq (sIf (tOrD (tbl (dTwo (vr 1) (cn (.int 0)) fEq)) (tbl (dTwo (dTwo (vr 2) (cn (.int 0)) fIx) (cn (.int 0)) fEq))) (sRet (dTup (aCons (vr 0) (aCons (cn (.int 0)) (aCons (cn k_ZERO) (aNil)))))) (sNx)) (sSeq (sIf (tAndD (ttr (dCall m_is_square 1 0 (fun ds _ => ds) (aCons (dTwo (vr 2) (cn (.int 0)) fIx) (aNil)) aNil)) (ttr (dCall m_is_square 1 0 (fun ds _ => ds) (aCons (dTwo (vr 2) (cn (.int 1)) fIx) (aNil)) aNil))) (sRet (dTup (aCons (dCall m_plus 2 0 (fun ds _ => ds) (aCons (vr 0) (aCons (dTup (aCons (dTwo (vr 1) (dCall m_whole_root 1 0 (fun ds _ => ds) (aCons (dTwo (vr 2) (cn (.int 0)) fIx) (aNil)) aNil) fMul) (aCons (dCall m_whole_root 1 0 (fun ds _ => ds) (aCons (dTwo (vr 2) (cn (.int 1)) fIx) (aNil)) aNil) (aNil)))) (aNil))) aNil) (aCons (cn (.int 0)) (aCons (cn k_ZERO) (aNil)))))) (sNx)) (sRet (dTup (aCons (vr 0) (aCons (vr 1) (aCons (vr 2) (aNil))))))))
def m_root : TFd := fnD 3 3 t_root
def t_l_cell_at : TSd := sSeq (sIf (tbl (dTwo (vr 1) (dB bLen (aCons (vr 0) (aNil))) fLt)) (sRet (dTwo (vr 0) (vr 1) fIx)) (sNx)) (sRet (cn (.int 0)))
def m_l_cell_at : TFd := fnD 2 2 t_l_cell_at
def t_l_bag : TSd := sSeq (sAsg (dTup (aCons (cn (.int 99991)) (aCons (cn (.int 99971)) (aCons (cn (.int 99961)) (aCons (cn (.int 99929)) (aCons (cn (.int 99923)) (aCons (cn (.int 99907)) (aCons (cn (.int 99901)) (aCons (cn (.int 99881)) (aCons (cn (.int 99877)) (aNil))))))))))) (.nm 2)) (sSeq (sAsg (dCall m_l_cell_at 2 0 (fun ds _ => ds) (aCons (vr 0) (aCons (vr 1) (aNil))) aNil) (.nm 3)) (sSeq (sAsg (dTwo (dTwo (cn (.int 7919)) (vr 1) fMul) (cn (.int 29)) fAdd) (.nm 4)) (sSeq (sFor (iR1 (aCons (cn (.int 9)) (aNil))) (.nm 5) (sSeq (sAsg (dTwo (dTwo (dTwo (dCall m_l_cell_at 2 0 (fun ds _ => ds) (aCons (vr 0) (aCons (dTwo (vr 1) (vr 5) fAdd) (aNil))) aNil) (dTwo (cn (.int 10)) (cn (.int 18)) fPow) fMod) (dTwo (cn (.int 11)) (vr 5) fMul) fAdd) (cn (.int 1)) fAdd) (.nm 6)) (sAsg (dTwo (dTwo (dTwo (vr 4) (cn (.int 48271)) fMul) (dTwo (dTwo (vr 6) (cn (.int 3)) fPow) (dTwo (vr 2) (vr 5) fIx) fMod) fAdd) (cn (.int 2147483629)) fMod) (.nm 4)))) (sSeq (sIf (tbl (dTwo (vr 3) (dTwo (cn (.int 10)) (cn (.int 18)) fPow) fLt)) (sAsg (cn (.int 0)) (.nm 3)) (sNx)) (sRet (dLstR (aCons (vr 3) (aCons (dTwo (vr 4) (cn (.int 1)) fAdd) (aNil)))))))))
def m_l_bag : TFd := fnD 2 7 t_l_bag
def t_l_take : TSd := sSeq (sIf (tbl (dTwo (dTwo (vr 0) (cn (.int 0)) fIx) (cn (.int 0)) fGt)) (sSeq (sAsg (dTwo (dTwo (vr 0) (cn (.int 0)) fIx) (vr 1) fMod) (.nm 2)) (sSeq (sSub (dTwo (dTwo (vr 0) (cn (.int 0)) fIx) (vr 1) fDiv) (vr 0) (cn (.int 0))) (sRet (vr 2)))) (sNx)) (sSeq (sSub (dTwo (dTwo (dTwo (vr 0) (cn (.int 1)) fIx) (cn (.int 48271)) fMul) (cn (.int 2147483647)) fMod) (vr 0) (cn (.int 1))) (sRet (dTwo (dTwo (dTwo (dTwo (dTwo (vr 0) (cn (.int 1)) fIx) (cn (.int 3)) fPow) (cn (.int 2147483629)) fMod) (cn (.int 1000003)) fMod) (vr 1) fMod)))
def m_l_take : TFd := fnD 2 3 t_l_take
def t_sign_of : TSd := sRet (dTwo (dB bInt (aCons (dTwo (vr 0) (cn (.int 0)) fGt) (aNil))) (dB bInt (aCons (dTwo (vr 0) (cn (.int 0)) fLt) (aNil))) fSub)
def m_sign_of : TFd := fnD 1 1 t_sign_of
end Lb

namespace Lb
open PySem PySem.Spec PyProof.Rows L2 Bl
/-! ### how great -/
def sm (n : Nat) (i : Int) : Prop := i.natAbs < 2 ^ n
theorem sm.mono {m n : Nat} {i : Int} (h : sm m i) (l : m ≤ n) : sm n i := Nat.lt_of_lt_of_le h (Nat.pow_le_pow_right (by decide) l)
theorem sm.mul {m n : Nat} {i j : Int} (a : sm m i) (b : sm n j) : sm (m + n) (i * j) := by
  unfold sm at *
  rw [Int.natAbs_mul, Nat.pow_add]
  exact Nat.mul_lt_mul'' a b
theorem sm.add {n : Nat} {i j : Int} (a : sm n i) (b : sm n j) : sm (n + 1) (i + j) := by
  unfold sm at *
  have h := Int.natAbs_add_le i j
  rw [Nat.pow_succ]
  omega
theorem sm.sub {n : Nat} {i j : Int} (a : sm n i) (b : sm n j) : sm (n + 1) (i - j) := by
  unfold sm at *
  rw [Nat.pow_succ]
  omega
theorem sm.neg {n : Nat} {i : Int} (a : sm n i) : sm n (-i) := by unfold sm at *; omega
theorem sm.of {n : Nat} {i : Int} (h : i.natAbs < 2 ^ n) : sm n i := h
theorem log2_le {n k : Nat} (h : n < 2 ^ k) : n.log2 ≤ k := by
  by_cases h0 : n = 0
  · subst h0; simp
  · exact Nat.le_of_lt ((Nat.log2_lt h0).mpr h)
theorem sm.cmul {m n : Nat} {i j : Int} (a : sm m i) (b : sm n j) (h : m + n < 1000000) : CMul' i j := by
  have h1 := log2_le a
  have h2 := log2_le b
  unfold CMul'
  omega
theorem sm.cdiv {n : Nat} {j : Int} (a : sm n j) (h0 : j ≠ 0) (h : n ≤ 9000) : CDiv' j := ⟨h0, Nat.lt_of_lt_of_le ((Nat.log2_lt (by omega)).mpr a) h⟩
theorem sm.bits {n : Nat} {j : Int} (a : sm n j) : Builtin.Int.intBits j ≤ n + 1 := by
  unfold Builtin.Int.intBits
  split
  · omega
  · have := log2_le a
    omega
/-! ### fractions -/
abbrev fr (r : Rat) : D := .tup [.int r.num, .int r.den]
structure sr (k : Nat) (r : Rat) : Prop where
  n : sm k r.num
  d : sm k r.den
theorem sr.mono {m n : Nat} {r : Rat} (h : sr m r) (l : m ≤ n) : sr n r := ⟨h.n.mono l, h.d.mono l⟩
theorem den_pos (r : Rat) : (0 : Int) < r.den := by have := r.den_pos; omega
theorem den_ne (r : Rat) : (r.den : Int) ≠ 0 := by have := r.den_pos; omega
theorem castne {q : Int} (h : q ≠ 0) : (q : Rat) ≠ 0 := fun z => h (Rat.intCast_eq_zero_iff.mp z)
/-- a fraction's parts, of any two whole numbers that make it -/
theorem low_of {p q : Int} {r : Rat} (hq : q ≠ 0) (h : r * q = p) : ∃ t : Int, t = q.sign * (Int.gcd p q) ∧ t ≠ 0 ∧ p = r.num * t ∧ q = r.den * t := by
  have e : r = Rat.divInt p q := by
    rw [Rat.divInt_eq_div, ← h, Rat.mul_div_cancel (castne hq)]
  have g0 : 0 < Int.gcd p q := Int.gcd_pos_of_ne_zero_right _ hq
  have gp : (Int.gcd p q : Int) ∣ p := Int.gcd_dvd_left ..
  have gq : (Int.gcd p q : Int) ∣ q := Int.gcd_dvd_right ..
  have ss : q.sign * q.sign = 1 := by
    rcases Int.lt_or_gt_of_ne hq with z | z
    · rw [Int.sign_eq_neg_one_of_neg z]; rfl
    · rw [Int.sign_eq_one_of_pos z]; rfl
  have sq : q.sign * q = q.natAbs := by
    rcases Int.lt_or_gt_of_ne hq with z | z
    · rw [Int.sign_eq_neg_one_of_neg z]; omega
    · rw [Int.sign_eq_one_of_pos z]; omega
  refine ⟨_, rfl, ?_, ?_, ?_⟩
  · intro z
    rcases Int.mul_eq_zero.mp z with z | z
    · rw [z] at ss; cases ss
    · omega
  · rw [e, Rat.num_divInt, Int.gcd_comm q p]
    have g1 : (Int.gcd p q : Int) ≠ 0 := by omega
    clear e sq gq
    obtain ⟨p', hp⟩ := gp
    generalize (Int.gcd p q : Int) = g at *
    have e1 : q.sign * p = g * (q.sign * p') := by rw [hp]; grind
    rw [e1, Int.mul_ediv_cancel_left _ g1, hp]
    grind
  · rw [e, Rat.den_divInt, if_neg hq, Int.gcd_comm q p, Int.natCast_ediv, ← sq]
    have g1 : (Int.gcd p q : Int) ≠ 0 := by omega
    clear e sq gp
    obtain ⟨q', hq'⟩ := gq
    generalize (Int.gcd p q : Int) = g at *
    generalize q.sign = s at *
    have e1 : s * q = g * (s * q') := by rw [hq']; grind
    rw [e1, Int.mul_ediv_cancel_left _ g1, hq']
    grind
theorem low_sm {p q : Int} {r : Rat} {n m : Nat} (hq : q ≠ 0) (h : r * q = p) (hp : sm n p) (hs : sm m q) : sm n r.num ∧ sm m r.den := by
  obtain ⟨t, _, t0, e1, e2⟩ := low_of hq h
  unfold sm at *
  have t1 : 1 ≤ t.natAbs := by omega
  constructor
  · rw [e1, Int.natAbs_mul] at hp
    exact Nat.lt_of_le_of_lt (Nat.le_mul_of_pos_right _ t1) hp
  · rw [e2, Int.natAbs_mul] at hs
    exact Nat.lt_of_le_of_lt (Nat.le_mul_of_pos_right _ t1) hs
theorem num_den (r : Rat) : r * (r.den : Int) = (r.num : Int) := by
  have h := Rat.num_divInt_den r
  rw [Rat.divInt_eq_div] at h
  have z := Rat.div_mul_cancel (a := (r.num : Rat)) (b := ((r.den : Int) : Rat)) (castne (den_ne r))
  rw [h] at z
  exact z
theorem sr.add {m n : Nat} {a b : Rat} (ha : sr m a) (hb : sr n b) : sr (m + n + 1) (a + b) := by
  have z := low_sm (p := a.num * b.den + b.num * a.den) (q := a.den * b.den) (r := a + b) (n := m + n + 1) (m := m + n) (Int.mul_ne_zero (den_ne a) (den_ne b)) (by
    have e1 := num_den a
    have e2 := num_den b
    simp only [Rat.intCast_mul, Rat.intCast_add]
    grind) (.add (ha.n.mul hb.d) ((hb.n.mul ha.d).mono (by omega))) (ha.d.mul hb.d)
  exact ⟨z.1, z.2.mono (by omega)⟩
theorem sr.neg {m : Nat} {a : Rat} (ha : sr m a) : sr m (-a) := ⟨by rw [Rat.neg_num]; exact ha.n.neg, by rw [Rat.neg_den]; exact ha.d⟩
theorem sr.mul {m n : Nat} {a b : Rat} (ha : sr m a) (hb : sr n b) : sr (m + n) (a * b) := by
  have z := low_sm (p := a.num * b.num) (q := a.den * b.den) (r := a * b) (n := m + n) (m := m + n) (Int.mul_ne_zero (den_ne a) (den_ne b)) (by
    have e1 := num_den a
    have e2 := num_den b
    simp only [Rat.intCast_mul, Rat.intCast_add]
    grind) (ha.n.mul hb.n) (ha.d.mul hb.d)
  exact ⟨z.1, z.2⟩
theorem sr.int {m : Nat} {i : Int} (h : sm m i) (h0 : 0 < m) : sr m (i : Rat) := ⟨h, by show (1 : Int).natAbs < 2 ^ m; have : 2 ^ 1 ≤ 2 ^ m := Nat.pow_le_pow_right (by decide) h0; omega⟩
theorem sr.zero {m : Nat} : sr (m + 1) 0 := ⟨by show (0 : Int).natAbs < _; exact Nat.pow_pos (by decide), by show (1 : Int).natAbs < 2 ^ (m + 1); have : 0 < 2 ^ m := Nat.pow_pos (by decide); rw [Nat.pow_succ]; omega⟩
theorem fr_inj {a b : Rat} (h1 : a.num = b.num) (h2 : (a.den : Int) = b.den) : a = b := Rat.ext h1 (by omega)
theorem eq_fr (a b : Rat) : eqD (fr a) (fr b) = decide (a = b) := by
  show (a.num == b.num && ((a.den : Int) == (b.den : Int) && true)) = _
  rw [Bool.eq_iff_iff]
  simp only [Bool.and_eq_true, beq_iff_eq, and_true, decide_eq_true_eq]
  exact ⟨fun h => fr_inj h.1 h.2, fun h => by rw [h]; exact ⟨rfl, rfl⟩⟩
/-! ### the greatest whole number whose square is no greater -/
def isq : Nat → Nat
  | 0 => 0
  | n + 1 => if (isq n + 1) * (isq n + 1) ≤ n + 1 then isq n + 1 else isq n
theorem isq_spec : ∀ n, isq n * isq n ≤ n ∧ n < (isq n + 1) * (isq n + 1)
  | 0 => by decide
  | n + 1 => by
    obtain ⟨h1, h2⟩ := isq_spec n
    unfold isq
    split
    · rename_i h
      refine ⟨h, ?_⟩
      have e : (isq n + 1 + 1) * (isq n + 1 + 1) = (isq n + 1) * (isq n + 1) + 2 * (isq n) + 3 := by grind
      omega
    · omega
theorem sq_lt {a b : Nat} (h : a * a < b * b) : a < b := by
  rcases Nat.lt_or_ge a b with z | z
  · exact z
  · have := Nat.mul_le_mul z z; omega
theorem isq_uniq {n k : Nat} (h1 : k * k ≤ n) (h2 : n < (k + 1) * (k + 1)) : k = isq n := by
  obtain ⟨g1, g2⟩ := isq_spec n
  have a := sq_lt (Nat.lt_of_le_of_lt h1 g2)
  have b := sq_lt (Nat.lt_of_le_of_lt g1 h2)
  omega
theorem isq_sq (k : Nat) : isq (k * k) = k := by
  refine (isq_uniq (Nat.le_refl _) ?_).symm
  have : (k + 1) * (k + 1) = k * k + 2 * k + 1 := by grind
  omega
theorem isq_pos {n : Nat} (h : 0 < n) : 0 < isq n := by
  obtain ⟨_, g2⟩ := isq_spec n
  rcases Nat.eq_zero_or_pos (isq n) with z | z
  · rw [z] at g2; omega
  · exact z
theorem isq_le (n : Nat) : isq n ≤ n := by
  obtain ⟨g1, _⟩ := isq_spec n
  rcases Nat.eq_zero_or_pos (isq n) with z | z
  · omega
  · have := Nat.le_mul_of_pos_left (isq n) z; omega
/-- a fraction's root, if it is a fraction times itself -/
def sqb (q : Rat) : Prop := ((isq q.num.toNat : Int) * isq q.num.toNat = q.num) ∧ ((isq q.den : Int) * isq q.den = q.den)
instance (q : Rat) : Decidable (sqb q) := by unfold sqb; infer_instance
def sqr (q : Rat) : Rat := ((isq q.num.toNat : Int) : Rat) / ((isq q.den : Int) : Rat)
theorem isq_den (q : Rat) : (isq q.den : Int) ≠ 0 := by have := isq_pos q.den_pos; omega
theorem sqr_mul {q : Rat} (h : sqb q) : sqr q * sqr q = q := by
  obtain ⟨h1, h2⟩ := h
  have e := num_den q
  have d0 := castne (isq_den q)
  have z := Rat.div_mul_cancel (a := ((isq q.num.toNat : Int) : Rat)) d0
  have h1' : ((isq q.num.toNat : Int) : Rat) * ((isq q.num.toNat : Int) : Rat) = (q.num : Rat) := by rw [← Rat.intCast_mul, h1]
  have h2' : ((isq q.den : Int) : Rat) * ((isq q.den : Int) : Rat) = ((q.den : Int) : Rat) := by rw [← Rat.intCast_mul, h2]
  have d1 := castne (den_ne q)
  unfold sqr
  grind
theorem sqr_nonneg (q : Rat) : 0 ≤ sqr q := by
  unfold sqr
  rw [← Rat.divInt_eq_div]
  exact Rat.divInt_nonneg (by omega) (by omega)
theorem sqb_of {q t : Rat} (h : t * t = q) : sqb q := by
  have e := num_den t
  have z : q.num = t.num * t.num ∧ (q.den : Int) = t.den * t.den := by
    subst h
    have h1 := Rat.num_mul t t
    have h2 := Rat.den_mul t t
    have c : Nat.gcd (t.num * t.num).natAbs (t.den * t.den) = 1 := by
      rw [Int.natAbs_mul]
      exact Nat.Coprime.mul_left (Nat.Coprime.mul_right t.reduced t.reduced) (Nat.Coprime.mul_right t.reduced t.reduced)
    rw [c] at h1 h2
    rw [h1, h2]
    simp
  unfold sqb
  rw [z.1]
  have e1 : (t.num * t.num).toNat = t.num.natAbs * t.num.natAbs := by
    have : t.num * t.num = ((t.num.natAbs * t.num.natAbs : Nat) : Int) := by
      have := Int.natAbs_mul_self' t.num
      rw [← this]
      push_cast
      rfl
    rw [this, Int.toNat_natCast]
  have e2 : q.den = t.den * t.den := by have := z.2; exact_mod_cast this
  rw [e1, isq_sq, e2, isq_sq]
  refine ⟨?_, by push_cast; rfl⟩
  have := Int.natAbs_mul_self' t.num
  exact this
theorem sqr_of {q t : Rat} (h : t * t = q) (h0 : 0 ≤ t) : sqr q = t := by
  have h1 := sqr_mul (sqb_of h)
  have h2 := sqr_nonneg q
  have : (sqr q - t) * (sqr q + t) = 0 := by grind
  rcases Rat.mul_eq_zero.mp this with z | z
  · grind
  · have : sqr q = 0 ∧ t = 0 := by grind
    rw [this.1, this.2]
end Lb

namespace Lb
open PySem PySem.Spec PyProof.Rows L2 Bl
theorem atI_0 {α : Type} {x : α} {l : List α} : atI (x :: l) 0 = some x := by
  unfold atI ixN
  simp
theorem atI_1 {α : Type} {x y : α} {l : List α} : atI (x :: y :: l) 1 = some y := atI_nat (j := 1) rfl
theorem atI_2 {α : Type} {x y z : α} {l : List α} : atI (x :: y :: z :: l) 2 = some z := atI_nat (j := 2) rfl
section
variable {i j : Int} {a b : List D} {S : Sto} {Q : DK} {P : Bool → Sto → Prop} {r : Addr} {x : Str} {c : Bool}
theorem truD_bl : truD (.bl c) S P = P c S := rfl
theorem truD_int : truD (.int i) S P = P (i != 0) S := rfl
theorem truD_non : truD .non S P = P false S := rfl
theorem truD_tup : truD (.tup a) S P = P (!a.isEmpty) S := rfl
theorem truD_lst : truD (.lst a) S P = P (!a.isEmpty) S := rfl
theorem truD_str : truD (.str x) S P = (x.length ≤ sizeLine ∧ P ((x.length : Int) != 0) S) := rfl
theorem truD_ref : truD (.ref r) S P = match S r with | some ds => P (!ds.isEmpty) S | none => False := rfl
theorem fAdd_int : fAdd (.int i) (.int j) S Q = Q (.int (i + j)) S := rfl
theorem fAdd_tup : fAdd (.tup a) (.tup b) S Q = (a.length + b.length ≤ sizeLine ∧ Q (.tup (a ++ b)) S) := rfl
theorem fIx_tup : fIx (.tup a) (.int i) S Q = match atI a i with | some d => Q d S | none => False := rfl
theorem fIx_lst : fIx (.lst a) (.int i) S Q = match atI a i with | some d => Q d S | none => False := rfl
theorem fIx_ref : fIx (.ref r) (.int i) S Q = match S r with | some ds => (match atI ds i with | some d => Q d S | none => False) | none => False := rfl
theorem bLen_tup : bLen [.tup a] S Q = Q (.int a.length) S := rfl
theorem bLen_lst : bLen [.lst a] S Q = Q (.int a.length) S := rfl
theorem bLen_ref : bLen [.ref r] S Q = match S r with | some xs => Q (.int xs.length) S | none => False := rfl
theorem bInt_int : bInt [.int i] S Q = Q (.int i) S := rfl
theorem bInt_bl : bInt [.bl c] S Q = Q (.int (if c then 1 else 0)) S := rfl
end
theorem ix20 : ixN 2 0 = some 0 := rfl
theorem ix21 : ixN 2 1 = some 1 := rfl
/-! ### the two tellings of gcd -/
theorem gcd_step {x y : Int} (hx : 0 < x) (hy : 0 ≤ y) : 0 ≤ y.fmod x ∧ y.fmod x < x ∧ Int.gcd (y.fmod x) x = Int.gcd x y := by
  have e : y.fmod x = y % x := Int.fmod_eq_emod_of_nonneg _ (by omega)
  rw [e]
  exact ⟨Int.emod_nonneg _ (by omega), Int.emod_lt_of_pos _ hx, by unfold Int.gcd; rw [Int.natAbs_emod_of_nonneg hy]; exact (Nat.gcd_rec x.natAbs y.natAbs).symm⟩
theorem fdiv_mul {a t : Int} (h : t ≠ 0) : (a * t).fdiv t = a := Int.mul_fdiv_cancel _ h
theorem sm.abs {n : Nat} {p : Int} (h : sm n p) : sm n (if p < 0 then -p else p) := by
  split
  · exact h.neg
  · exact h
theorem low_loop {p q : Int} {n : Nat} {r : Rat} {S : Sto} {N : Nd} (hq : 0 < q) (hp : sm n p) (hs : sm n q) (hn : n ≤ 8900) (h : r * q = p) (k : N.rt (fr r) S) :
    sSeq (sWhile (tbl (dTwo (vr 2) (cn (.int 0)) fGt)) (sPar [2, 3] (aCons (dTwo (vr 3) (vr 2) fMod) (aCons (vr 2) (aNil))))) (sRet (dTup (aCons (dTwo (vr 0) (vr 3) fDiv) (aCons (dTwo (vr 1) (vr 3) fDiv) (aNil)))))
      [some (.int p), some (.int q), some (.int (if p < 0 then -p else p)), some (.int q)] S N := by
  obtain ⟨t, et, t0, e1, e2⟩ := low_of (by omega) h
  rw [Int.sign_eq_one_of_pos hq, Int.one_mul] at et
  simp only [fnD, sNx, sSeq, sRet, sRetN, sDrop, sIf, sBrk, sCnt, sAsg, sPar, sAug, sSub, setD, sThru, asgT, asgL, itemsOf, vr, cn, dTwo, tbl, ttr, truD_bl, truD_int, truD_non, truD_tup, truD_lst, truD_str, truD_ref, tAndD, tOrD, tNotD, vOf, eIf, vNot, dNeg, fAdd_int, fAdd_tup, fSub, fMul, fDiv, fMod, fPow, fShl, fLt, fLe, fGt, fGe, fEq, fNe, fIx_tup, fIx_lst, fIx_ref, aNil, aCons, dTup, dLst, dLstR, dB, bAbs, bLen_tup, bLen_lst, bLen_ref, bMax, bMin, bInt_int, bInt_bl, dBits, dCall, iVal, iR1, iR2, List.map_cons, List.map_nil, List.length_cons, List.length_nil, List.replicate, List.cons_append, List.nil_append, List.append_nil, List.set, List.getElem?_cons_zero, List.getElem?_cons_succ, List.getElem?_nil, atI_0, atI_1, atI_2, ix20, ix21, sup_same, Nat.reduceAdd, Nat.reduceSub, Nat.succ_eq_add_one, decide_eq_true_eq, Bool.not_eq_true', decide_eq_false_iff_not, true_and, and_true, Bool.true_eq_false, Bool.false_eq_true, if_true, if_false, reduceCtorEq]
  refine ⟨fun m e s => ∃ x y : Int, e = [some (.int p), some (.int q), some (.int x), some (.int y)] ∧ s = S ∧ 0 ≤ x ∧ 0 < y ∧ sm n x ∧ sm n y ∧ (Int.gcd x y : Int) = t ∧ m = x.toNat, ⟨_, _, q, rfl, rfl, by split <;> omega, hq, hp.abs, hs, ?_, rfl⟩, ?_⟩
  · rw [et]
    split
    · rw [Int.neg_gcd]
    · rfl
  · rintro m e s ⟨x, y, rfl, rfl, hx, hy, hxs, hys, hg, rfl⟩
    simp only [fnD, sNx, sSeq, sRet, sRetN, sDrop, sIf, sBrk, sCnt, sAsg, sPar, sAug, sSub, setD, sThru, asgT, asgL, itemsOf, vr, cn, dTwo, tbl, ttr, truD_bl, truD_int, truD_non, truD_tup, truD_lst, truD_str, truD_ref, tAndD, tOrD, tNotD, vOf, eIf, vNot, dNeg, fAdd_int, fAdd_tup, fSub, fMul, fDiv, fMod, fPow, fShl, fLt, fLe, fGt, fGe, fEq, fNe, fIx_tup, fIx_lst, fIx_ref, aNil, aCons, dTup, dLst, dLstR, dB, bAbs, bLen_tup, bLen_lst, bLen_ref, bMax, bMin, bInt_int, bInt_bl, dBits, dCall, iVal, iR1, iR2, List.map_cons, List.map_nil, List.length_cons, List.length_nil, List.replicate, List.cons_append, List.nil_append, List.append_nil, List.set, List.getElem?_cons_zero, List.getElem?_cons_succ, List.getElem?_nil, atI_0, atI_1, atI_2, ix20, ix21, sup_same, Nat.reduceAdd, Nat.reduceSub, Nat.succ_eq_add_one, decide_eq_true_eq, Bool.not_eq_true', decide_eq_false_iff_not, true_and, and_true, Bool.true_eq_false, Bool.false_eq_true, if_true, if_false, reduceCtorEq]
    split
    · rename_i hx0
      obtain ⟨g1, g2, g3⟩ := gcd_step hx0 (show 0 ≤ y by omega)
      exact ⟨by omega, (y.fmod x).toNat, by omega, _, x, rfl, g1, hx0, by unfold sm at *; omega, hxs, by rw [g3]; exact hg, rfl⟩
    · have hx1 : x = 0 := by omega
      subst hx1
      rw [Int.gcd_zero_left] at hg
      have hy2 : y = t := by omega
      subst hy2
      have hd : CDiv' y := hys.cdiv (by omega) (by omega)
      refine ⟨hd, hd, by decide, ?_⟩
      have d1 : p.fdiv y = r.num := by rw [e1, fdiv_mul t0]
      have d2 : q.fdiv y = r.den := by rw [e2, fdiv_mul t0]
      rw [d1, d2]
      exact k
abbrev pr (a b : Int) : D := .tup [.int a, .int b]
/-! ### the drawn numbers -/
def Bg (S : Sto) (a : Addr) : Prop := ∃ c m : Int, S a = some [.int c, .int m] ∧ 0 ≤ c ∧ 0 ≤ m ∧ m < 2147483648
def Fr (S S' : Sto) (a : Addr) : Prop := ∀ b, b ≠ a → S' b = S b
theorem Fr.refl (S : Sto) (a : Addr) : Fr S S a := fun _ _ => rfl
theorem Fr.trans {S S1 S2 : Sto} {a : Addr} (h : Fr S S1 a) (k : Fr S1 S2 a) : Fr S S2 a := fun b hb => (k b hb).trans (h b hb)
theorem Fr.sup {S : Sto} {a : Addr} {ds : List D} : Fr S (sup S a ds) a := fun b hb => sup_ne hb
theorem fmod_pos {a b : Int} (h : 0 < b) : 0 ≤ a.fmod b ∧ a.fmod b < b := by
  rw [Int.fmod_eq_emod_of_nonneg _ (by omega)]
  exact ⟨Int.emod_nonneg _ (by omega), Int.emod_lt_of_pos _ h⟩
theorem fdiv_nonneg {a b : Int} (h : 0 < b) (ha : 0 ≤ a) : 0 ≤ a.fdiv b := by
  rw [Int.fdiv_eq_ediv_of_nonneg _ (by omega)]
  exact Int.ediv_nonneg ha (by omega)
theorem take_spec {a : Addr} {many : Int} {S : Sto} {Q : DK} {E : EK} (hb : Bg S a) (h0 : 0 < many) (h1 : sm 9000 many) (k : ∀ d S', 0 ≤ d → d < many → Bg S' a → Fr S S' a → Q (.int d) S') : m_l_take [.ref a, .int many] S Q E := by
  obtain ⟨c, m, e, hc, hm, hm2⟩ := hb
  unfold m_l_take t_l_take
  simp only [e, fnD, sNx, sSeq, sRet, sRetN, sDrop, sIf, sBrk, sCnt, sAsg, sPar, sAug, sSub, setD, sThru, asgT, asgL, itemsOf, vr, cn, dTwo, tbl, ttr, truD_bl, truD_int, truD_non, truD_tup, truD_lst, truD_str, truD_ref, tAndD, tOrD, tNotD, vOf, eIf, vNot, dNeg, fAdd_int, fAdd_tup, fSub, fMul, fDiv, fMod, fPow, fShl, fLt, fLe, fGt, fGe, fEq, fNe, fIx_tup, fIx_lst, fIx_ref, aNil, aCons, dTup, dLst, dLstR, dB, bAbs, bLen_tup, bLen_lst, bLen_ref, bMax, bMin, bInt_int, bInt_bl, dBits, dCall, iVal, iR1, iR2, List.map_cons, List.map_nil, List.length_cons, List.length_nil, List.replicate, List.cons_append, List.nil_append, List.append_nil, List.set, List.getElem?_cons_zero, List.getElem?_cons_succ, List.getElem?_nil, atI_0, atI_1, atI_2, ix20, ix21, sup_same, Nat.reduceAdd, Nat.reduceSub, Nat.succ_eq_add_one, decide_eq_true_eq, Bool.not_eq_true', decide_eq_false_iff_not, true_and, and_true, Bool.true_eq_false, Bool.false_eq_true, if_true, if_false, reduceCtorEq]
  split
  · rename_i hc0
    exact ⟨by omega, h1.cdiv (by omega) (by omega), k _ _ (fmod_pos h0).1 (fmod_pos h0).2 ⟨_, _, sup_same, fdiv_nonneg h0 hc, hm, hm2⟩ Fr.sup⟩
  · have g := fmod_pos (a := m * 48271) (b := 2147483647) (by omega)
    refine ⟨(sm.of (n := 32) (by omega)).cmul (sm.of (n := 32) (by decide)) (by decide), by decide, by decide, ?_, by decide, by decide, by omega, k _ _ (fmod_pos h0).1 (fmod_pos h0).2 ⟨_, _, sup_same, hc, g.1, by omega⟩ Fr.sup⟩
    have z := (sm.of (n := 31) (i := (m * 48271).fmod 2147483647) (by omega)).bits
    omega
theorem sm_k {i : Int} (h : i.natAbs < 2 ^ 8) : sm 9000 i := sm.mono (m := 8) h (by decide)
def rabs (r : Rat) : Rat := if r.num < 0 then -r else r
theorem rabs_num (r : Rat) : (rabs r).num = if r.num < 0 then -r.num else r.num := by
  unfold rabs
  split
  · rfl
  · rfl
theorem rabs_den (r : Rat) : (rabs r).den = r.den := by
  unfold rabs
  split <;> rfl
theorem sr.abs {n : Nat} {r : Rat} (h : sr n r) : sr n (rabs r) := ⟨by rw [rabs_num]; exact h.n.abs, by rw [rabs_den]; exact h.d⟩
theorem sq_nonneg (r : Rat) : 0 ≤ r * r := by
  rcases Rat.le_total (a := 0) (b := r) with h | h
  · exact Rat.mul_nonneg h h
  · have : r * r = (-r) * (-r) := by grind
    rw [this]
    exact Rat.mul_nonneg (by grind) (by grind)
/-! ### roots of whole numbers -/
theorem isq_of {n f : Int} (h0 : 0 ≤ f) (h1 : f * f ≤ n) (h2 : n < (f + 1) * (f + 1)) : f = (isq n.toNat : Int) := by
  obtain ⟨m, rfl⟩ := Int.eq_ofNat_of_zero_le h0
  have hn : 0 ≤ n := Int.le_trans (Int.mul_nonneg h0 h0) h1
  obtain ⟨k, rfl⟩ := Int.eq_ofNat_of_zero_le hn
  rw [Int.toNat_natCast]
  have := isq_uniq (n := k) (k := m) (by exact_mod_cast h1) (by exact_mod_cast h2)
  omega
theorem sqi {f n : Int} (h : 0 ≤ f) : f ^ (2 : Int).toNat = f * f := by
  show f ^ 2 = f * f
  rw [Int.pow_succ, Int.pow_succ, Int.pow_zero, Int.one_mul]
theorem eq_int (i j : Int) : eqD (.int i) (.int j) = decide (i = j) := by
  show (i == j) = _
  rw [Bool.eq_iff_iff]
  simp
theorem ok_int (i : Int) : okD (.int i) := ⟨rfl, rfl⟩
theorem bits_lt (n : Int) : n.natAbs < 2 ^ Builtin.Int.intBits n := by
  unfold Builtin.Int.intBits
  split
  · rename_i h
    have : n = 0 := by simpa using h
    subst this
    decide
  · rename_i h
    have h0 : n.natAbs ≠ 0 := by
      intro z
      apply h
      have : n = 0 := by omega
      rw [this]
      rfl
    exact (Nat.log2_lt h0).mp (Nat.lt_succ_self _)
theorem whole_root_spec {n : Int} {m : Nat} {S : Sto} {Q : DK} {E : EK} (h0 : 0 ≤ n) (hs : sm m n) (hm : m ≤ 17000) (k : Q (.int (isq n.toNat)) S) : m_whole_root [.int n] S Q E := by
  unfold m_whole_root t_whole_root
  simp only [eq_int, fnD, sNx, sSeq, sRet, sRetN, sDrop, sIf, sBrk, sCnt, sAsg, sPar, sAug, sSub, setD, sThru, asgT, asgL, itemsOf, vr, cn, dTwo, tbl, ttr, truD_bl, truD_int, truD_non, truD_tup, truD_lst, truD_str, truD_ref, tAndD, tOrD, tNotD, vOf, eIf, vNot, dNeg, fAdd_int, fAdd_tup, fSub, fMul, fDiv, fMod, fPow, fShl, fLt, fLe, fGt, fGe, fEq, fNe, fIx_tup, fIx_lst, fIx_ref, aNil, aCons, dTup, dLst, dLstR, dB, bAbs, bLen_tup, bLen_lst, bLen_ref, bMax, bMin, bInt_int, bInt_bl, dBits, dCall, iVal, iR1, iR2, List.map_cons, List.map_nil, List.length_cons, List.length_nil, List.replicate, List.cons_append, List.nil_append, List.append_nil, List.set, List.getElem?_cons_zero, List.getElem?_cons_succ, List.getElem?_nil, atI_0, atI_1, atI_2, ix20, ix21, sup_same, Nat.reduceAdd, Nat.reduceSub, Nat.succ_eq_add_one, decide_eq_true_eq, Bool.not_eq_true', decide_eq_false_iff_not, true_and, and_true, Bool.true_eq_false, Bool.false_eq_true, if_true, if_false, reduceCtorEq]
  refine ⟨ok_int _, ok_int _, ?_⟩
  split
  · rename_i h
    subst h
    exact k
  · rename_i hn
    have hb := hs.bits
    have hlt := bits_lt n
    refine ⟨⟨by decide, by decide⟩, ⟨?_, ?_, by decide⟩, ?_⟩
    · exact fdiv_nonneg (by omega) (by omega)
    · rw [Int.fdiv_eq_ediv_of_nonneg _ (by omega)]
      omega
    · have e0 : ((((Builtin.Int.intBits n : Nat) : Int) + 1).fdiv 2).toNat = (Builtin.Int.intBits n + 1) / 2 := by
        rw [Int.fdiv_eq_ediv_of_nonneg _ (by omega)]
        omega
      rw [e0, Int.one_mul]
      generalize hh : (Builtin.Int.intBits n + 1) / 2 = h at *
      have hp : n < 2 ^ h * 2 ^ h := by
        have : n.natAbs < 2 ^ (h + h) := Nat.lt_of_lt_of_le hlt (Nat.pow_le_pow_right (by decide) (by omega))
        rw [Nat.pow_add] at this
        have e : n = (n.natAbs : Int) := by omega
        rw [e]
        exact_mod_cast this
      have hpp : (0 : Int) < 2 ^ h := Int.pow_pos (by decide)
      have hps : sm (m / 2 + 2) (2 ^ h) := by
        unfold sm
        rw [Int.natAbs_pow]
        exact Nat.pow_lt_pow_right (by decide) (by omega)
      have hnn : 0 < n := by omega
      clear hlt e0
      refine ⟨fun j e s => ∃ f : Int, e = [some (.int n), some (.int f)] ∧ s = S ∧ 0 < f ∧ n < (f + 1) * (f + 1) ∧ sm (m / 2 + 2) f ∧ j = f.toNat, ⟨_, 2 ^ h, rfl, rfl, hpp, ?_, hps, rfl⟩, ?_⟩
      · have : (2 ^ h + 1 : Int) * (2 ^ h + 1) = 2 ^ h * 2 ^ h + 2 * 2 ^ h + 1 := by grind
        omega
      · rintro j e s ⟨f, rfl, rfl, f0, f1, f2, rfl⟩
        simp only [fnD, sNx, sSeq, sRet, sRetN, sDrop, sIf, sBrk, sCnt, sAsg, sPar, sAug, sSub, setD, sThru, asgT, asgL, itemsOf, vr, cn, dTwo, tbl, ttr, truD_bl, truD_int, truD_non, truD_tup, truD_lst, truD_str, truD_ref, tAndD, tOrD, tNotD, vOf, eIf, vNot, dNeg, fAdd_int, fAdd_tup, fSub, fMul, fDiv, fMod, fPow, fShl, fLt, fLe, fGt, fGe, fEq, fNe, fIx_tup, fIx_lst, fIx_ref, aNil, aCons, dTup, dLst, dLstR, dB, bAbs, bLen_tup, bLen_lst, bLen_ref, bMax, bMin, bInt_int, bInt_bl, dBits, dCall, iVal, iR1, iR2, List.map_cons, List.map_nil, List.length_cons, List.length_nil, List.replicate, List.cons_append, List.nil_append, List.append_nil, List.set, List.getElem?_cons_zero, List.getElem?_cons_succ, List.getElem?_nil, atI_0, atI_1, atI_2, ix20, ix21, sup_same, Nat.reduceAdd, Nat.reduceSub, Nat.succ_eq_add_one, decide_eq_true_eq, Bool.not_eq_true', decide_eq_false_iff_not, true_and, and_true, Bool.true_eq_false, Bool.false_eq_true, if_true, if_false, reduceCtorEq]
        refine ⟨f2.cmul f2 (by omega), ?_⟩
        split
        · rename_i hc
          refine ⟨f2.cdiv (by omega) (by omega), ⟨by decide, by decide⟩, ?_⟩
          rw [Int.fdiv_eq_ediv_of_nonneg n (by omega), Int.fdiv_eq_ediv_of_nonneg _ (by omega)]
          have d1 : n / f * f ≤ n := Int.ediv_mul_le n (by omega)
          have d2 : n < (n / f + 1) * f := Int.lt_ediv_add_one_mul_self n f0
          have d0 : 0 ≤ n / f := Int.ediv_nonneg h0 (by omega)
          generalize n / f = g at *
          have d3 : g < f := by
            rcases Int.lt_or_le g f with z | z
            · exact z
            · have := Int.mul_le_mul_of_nonneg_right z (show 0 ≤ f by omega)
              omega
          obtain ⟨u, hu⟩ : ∃ u, u = (f + g) / 2 := ⟨_, rfl⟩
          rw [← hu]
          have u1 : f + g ≤ 2 * u + 1 := by omega
          have u2 : u < f := by omega
          have u3 : n < (u + 1) * (u + 1) := by
            have a1 : (f + g + 1) * f ≤ (2 * (u + 1)) * f := Int.mul_le_mul_of_nonneg_right (by omega) (by omega)
            have a2 : 0 ≤ (u + 1 - f) * (u + 1 - f) := by
              rcases Int.le_total 0 (u + 1 - f) with z | z
              · exact Int.mul_nonneg z z
              · exact Int.mul_nonneg_of_nonpos_of_nonpos z z
            have a3 : (f + g + 1) * f = f * f + (g + 1) * f := by grind
            have a4 : (u + 1) * (u + 1) = 2 * (u + 1) * f - f * f + (u + 1 - f) * (u + 1 - f) := by grind
            omega
          have u4 : 0 < u := by
            rcases Int.lt_or_le 0 u with z | z
            · exact z
            · have : u = 0 := by omega
              rw [this] at u3
              omega
          exact ⟨u.toNat, by omega, u, rfl, u4, u3, by unfold sm at *; omega, rfl⟩
        · rename_i hc
          rw [← isq_of (by omega) (by omega) f1] at k
          exact k
theorem isq_sm {n : Int} {m : Nat} (h0 : 0 ≤ n) (h : sm m n) : sm m (isq n.toNat) := by
  have := isq_le n.toNat
  unfold sm at *
  omega
theorem is_square_spec {n : Int} {m : Nat} {S : Sto} {Q : DK} {E : EK} (h0 : 0 ≤ n) (hs : sm m n) (hm : m ≤ 17000) (k : Q (.bl (decide ((isq n.toNat : Int) * isq n.toNat = n))) S) : m_is_square [.int n] S Q E := by
  unfold m_is_square t_is_square
  simp only [fnD, sNx, sSeq, sRet, sRetN, sDrop, sIf, sBrk, sCnt, sAsg, sPar, sAug, sSub, setD, sThru, asgT, asgL, itemsOf, vr, cn, dTwo, tbl, ttr, truD_bl, truD_int, truD_non, truD_tup, truD_lst, truD_str, truD_ref, tAndD, tOrD, tNotD, vOf, eIf, vNot, dNeg, fAdd_int, fAdd_tup, fSub, fMul, fDiv, fMod, fPow, fShl, fLt, fLe, fGt, fGe, fEq, fNe, fIx_tup, fIx_lst, fIx_ref, aNil, aCons, dTup, dLst, dLstR, dB, bAbs, bLen_tup, bLen_lst, bLen_ref, bMax, bMin, bInt_int, bInt_bl, dBits, dCall, iVal, iR1, iR2, List.map_cons, List.map_nil, List.length_cons, List.length_nil, List.replicate, List.cons_append, List.nil_append, List.append_nil, List.set, List.getElem?_cons_zero, List.getElem?_cons_succ, List.getElem?_nil, atI_0, atI_1, atI_2, ix20, ix21, sup_same, Nat.reduceAdd, Nat.reduceSub, Nat.succ_eq_add_one, decide_eq_true_eq, Bool.not_eq_true', decide_eq_false_iff_not, true_and, and_true, Bool.true_eq_false, Bool.false_eq_true, if_true, if_false, reduceCtorEq]
  refine whole_root_spec h0 hs hm ?_
  have z := (isq_sm h0 hs).bits
  simp only [eq_int, fnD, sNx, sSeq, sRet, sRetN, sDrop, sIf, sBrk, sCnt, sAsg, sPar, sAug, sSub, setD, sThru, asgT, asgL, itemsOf, vr, cn, dTwo, tbl, ttr, truD_bl, truD_int, truD_non, truD_tup, truD_lst, truD_str, truD_ref, tAndD, tOrD, tNotD, vOf, eIf, vNot, dNeg, fAdd_int, fAdd_tup, fSub, fMul, fDiv, fMod, fPow, fShl, fLt, fLe, fGt, fGe, fEq, fNe, fIx_tup, fIx_lst, fIx_ref, aNil, aCons, dTup, dLst, dLstR, dB, bAbs, bLen_tup, bLen_lst, bLen_ref, bMax, bMin, bInt_int, bInt_bl, dBits, dCall, iVal, iR1, iR2, List.map_cons, List.map_nil, List.length_cons, List.length_nil, List.replicate, List.cons_append, List.nil_append, List.append_nil, List.set, List.getElem?_cons_zero, List.getElem?_cons_succ, List.getElem?_nil, atI_0, atI_1, atI_2, ix20, ix21, sup_same, Nat.reduceAdd, Nat.reduceSub, Nat.succ_eq_add_one, decide_eq_true_eq, Bool.not_eq_true', decide_eq_false_iff_not, true_and, and_true, Bool.true_eq_false, Bool.false_eq_true, if_true, if_false, reduceCtorEq]
  rw [sqi (n := n) (by omega)]
  exact ⟨by decide, by omega, ok_int _, ok_int _, k⟩
end Lb

namespace Lb
open PySem PySem.Spec PyProof.Rows L2 Bl
/-! ### roots of fractions -/
structure Rt where
  b : Rat
  s : Int
  q : Rat
abbrev rt (x : Rt) : D := .tup [fr x.b, .int x.s, fr x.q]
def canon (b : Rat) (s : Int) (q : Rat) : Rt := if s = 0 ∨ q = 0 then ⟨b, 0, 0⟩ else if sqb q then ⟨b + s * sqr q, 0, 0⟩ else ⟨b, s, q⟩
/-! ### the program's fractions -/
theorem common_spec {p q : Int} {n : Nat} {S : Sto} {Q : DK} {E : EK} (hp : sm n p) (hq : sm n q) (k : Q (.int (Int.gcd p q)) S) : m_common [.int p, .int q] S Q E := by
  unfold m_common t_common
  simp only [fnD, sNx, sSeq, sRet, sRetN, sDrop, sIf, sBrk, sCnt, sAsg, sPar, sAug, sSub, setD, sThru, asgT, asgL, itemsOf, vr, cn, dTwo, tbl, ttr, truD_bl, truD_int, truD_non, truD_tup, truD_lst, truD_str, truD_ref, tAndD, tOrD, tNotD, vOf, eIf, vNot, dNeg, fAdd_int, fAdd_tup, fSub, fMul, fDiv, fMod, fPow, fShl, fLt, fLe, fGt, fGe, fEq, fNe, fIx_tup, fIx_lst, fIx_ref, aNil, aCons, dTup, dLst, dLstR, dB, bAbs, bLen_tup, bLen_lst, bLen_ref, bMax, bMin, bInt_int, bInt_bl, dBits, dCall, iVal, iR1, iR2, List.map_cons, List.map_nil, List.length_cons, List.length_nil, List.replicate, List.cons_append, List.nil_append, List.append_nil, List.set, List.getElem?_cons_zero, List.getElem?_cons_succ, List.getElem?_nil, atI_0, atI_1, atI_2, ix20, ix21, sup_same, Nat.reduceAdd, Nat.reduceSub, Nat.succ_eq_add_one, decide_eq_true_eq, Bool.not_eq_true', decide_eq_false_iff_not, true_and, and_true, Bool.true_eq_false, Bool.false_eq_true, if_true, if_false, reduceCtorEq]
  refine ⟨fun m e s => ∃ x y : Int, e = [some (.int x), some (.int y)] ∧ s = S ∧ 0 ≤ x ∧ 0 ≤ y ∧ (Int.gcd x y) = Int.gcd p q ∧ m = y.toNat, ⟨_, _, _, rfl, rfl, by split <;> omega, by split <;> omega, ?_, rfl⟩, ?_⟩
  · split <;> split <;> simp only [Int.neg_gcd, Int.gcd_neg]
  · rintro m e s ⟨x, y, rfl, rfl, hx, hy, hg, rfl⟩
    simp only [eq_int, fnD, sNx, sSeq, sRet, sRetN, sDrop, sIf, sBrk, sCnt, sAsg, sPar, sAug, sSub, setD, sThru, asgT, asgL, itemsOf, vr, cn, dTwo, tbl, ttr, truD_bl, truD_int, truD_non, truD_tup, truD_lst, truD_str, truD_ref, tAndD, tOrD, tNotD, vOf, eIf, vNot, dNeg, fAdd_int, fAdd_tup, fSub, fMul, fDiv, fMod, fPow, fShl, fLt, fLe, fGt, fGe, fEq, fNe, fIx_tup, fIx_lst, fIx_ref, aNil, aCons, dTup, dLst, dLstR, dB, bAbs, bLen_tup, bLen_lst, bLen_ref, bMax, bMin, bInt_int, bInt_bl, dBits, dCall, iVal, iR1, iR2, List.map_cons, List.map_nil, List.length_cons, List.length_nil, List.replicate, List.cons_append, List.nil_append, List.append_nil, List.set, List.getElem?_cons_zero, List.getElem?_cons_succ, List.getElem?_nil, atI_0, atI_1, atI_2, ix20, ix21, sup_same, Nat.reduceAdd, Nat.reduceSub, Nat.succ_eq_add_one, decide_eq_true_eq, Bool.not_eq_true', decide_eq_false_iff_not, true_and, and_true, Bool.true_eq_false, Bool.false_eq_true, if_true, if_false, reduceCtorEq]
    refine ⟨ok_int _, ok_int _, ?_⟩
    by_cases h : y = 0
    · subst h
      rw [Int.gcd_zero_right] at hg
      have : x = ((Int.gcd p q : Nat) : Int) := by omega
      rw [← this] at k
      simpa using k
    · obtain ⟨g1, g2, g3⟩ := gcd_step (show 0 < y by omega) hx
      rw [if_pos (by simpa using h)]
      exact ⟨h, (x.fmod y).toNat, by omega, y, _, rfl, hy, g1, by rw [Int.gcd_comm, g3, Int.gcd_comm]; exact hg, rfl⟩
theorem frac_spec {p q : Int} {n : Nat} {r : Rat} {S : Sto} {Q : DK} {E : EK} (hq : q ≠ 0) (hp : sm n p) (hs : sm n q) (hn : n ≤ 8900) (h : r * q = p) (k : Q (fr r) S) : m_frac [.int p, .int q] S Q E := by
  unfold m_frac t_frac
  simp only [fnD, sNx, sSeq, sRet, sRetN, sDrop, sIf, sBrk, sCnt, sAsg, sPar, sAug, sSub, setD, sThru, asgT, asgL, itemsOf, vr, cn, dTwo, tbl, ttr, truD_bl, truD_int, truD_non, truD_tup, truD_lst, truD_str, truD_ref, tAndD, tOrD, tNotD, vOf, eIf, vNot, dNeg, fAdd_int, fAdd_tup, fSub, fMul, fDiv, fMod, fPow, fShl, fLt, fLe, fGt, fGe, fEq, fNe, fIx_tup, fIx_lst, fIx_ref, aNil, aCons, dTup, dLst, dLstR, dB, bAbs, bLen_tup, bLen_lst, bLen_ref, bMax, bMin, bInt_int, bInt_bl, dBits, dCall, iVal, iR1, iR2, List.map_cons, List.map_nil, List.length_cons, List.length_nil, List.replicate, List.cons_append, List.nil_append, List.append_nil, List.set, List.getElem?_cons_zero, List.getElem?_cons_succ, List.getElem?_nil, atI_0, atI_1, atI_2, ix20, ix21, sup_same, Nat.reduceAdd, Nat.reduceSub, Nat.succ_eq_add_one, decide_eq_true_eq, Bool.not_eq_true', decide_eq_false_iff_not, true_and, and_true, Bool.true_eq_false, Bool.false_eq_true, if_true, if_false, reduceCtorEq]
  obtain ⟨t, et, t0, e1, e2⟩ := low_of hq h
  have es : q.fdiv (if q < 0 then -q else q) = q.sign := by
    split
    · rename_i hq0
      rw [Int.sign_eq_neg_one_of_neg hq0]
      have := fdiv_mul (a := -1) (t := -q) (by omega)
      rw [← this]
      congr 1
      omega
    · rename_i hq0
      rw [Int.sign_eq_one_of_pos (by omega), Int.fdiv_self (by omega)]
  rw [es]
  refine ⟨hs.abs.cdiv (by split <;> omega) (by omega), common_spec hp hs ?_⟩
  simp only [fnD, sNx, sSeq, sRet, sRetN, sDrop, sIf, sBrk, sCnt, sAsg, sPar, sAug, sSub, setD, sThru, asgT, asgL, itemsOf, vr, cn, dTwo, tbl, ttr, truD_bl, truD_int, truD_non, truD_tup, truD_lst, truD_str, truD_ref, tAndD, tOrD, tNotD, vOf, eIf, vNot, dNeg, fAdd_int, fAdd_tup, fSub, fMul, fDiv, fMod, fPow, fShl, fLt, fLe, fGt, fGe, fEq, fNe, fIx_tup, fIx_lst, fIx_ref, aNil, aCons, dTup, dLst, dLstR, dB, bAbs, bLen_tup, bLen_lst, bLen_ref, bMax, bMin, bInt_int, bInt_bl, dBits, dCall, iVal, iR1, iR2, List.map_cons, List.map_nil, List.length_cons, List.length_nil, List.replicate, List.cons_append, List.nil_append, List.append_nil, List.set, List.getElem?_cons_zero, List.getElem?_cons_succ, List.getElem?_nil, atI_0, atI_1, atI_2, ix20, ix21, sup_same, Nat.reduceAdd, Nat.reduceSub, Nat.succ_eq_add_one, decide_eq_true_eq, Bool.not_eq_true', decide_eq_false_iff_not, true_and, and_true, Bool.true_eq_false, Bool.false_eq_true, if_true, if_false, reduceCtorEq]
  have g1 : sm n (Int.gcd p q) := by
    have : Int.gcd p q ≤ q.natAbs := Nat.le_of_dvd (by omega) (Nat.gcd_dvd_right ..)
    unfold sm at *
    omega
  have g2 : sm 1 q.sign := by
    unfold sm
    rcases Int.lt_or_gt_of_ne hq with z | z
    · rw [Int.sign_eq_neg_one_of_neg z]; decide
    · rw [Int.sign_eq_one_of_pos z]; decide
  refine ⟨g1.cmul g2 (by omega), ?_⟩
  rw [Int.mul_comm, ← et]
  have ht : sm (n + 1) t := by rw [et]; exact (g2.mul g1).mono (by omega)
  have hd : CDiv' t := ht.cdiv t0 (by omega)
  have d1 : p.fdiv t = r.num := by rw [e1, fdiv_mul t0]
  have d2 : q.fdiv t = r.den := by rw [e2, fdiv_mul t0]
  rw [d1, d2]
  exact ⟨hd, hd, by decide, k⟩
theorem plus_spec {a b c d : Int} {n : Nat} {r : Rat} {S : Sto} {Q : DK} {E : EK} (hb : b ≠ 0) (hd : d ≠ 0) (ha : sm n a) (hb' : sm n b) (hc : sm n c) (hd' : sm n d) (hn : n ≤ 4440) (h : r * (b * d : Int) = (a * d + c * b : Int)) (k : Q (fr r) S) : m_plus [pr a b, pr c d] S Q E := by
  unfold m_plus t_plus
  simp only [fnD, sNx, sSeq, sRet, sRetN, sDrop, sIf, sBrk, sCnt, sAsg, sPar, sAug, sSub, setD, sThru, asgT, asgL, itemsOf, vr, cn, dTwo, tbl, ttr, truD_bl, truD_int, truD_non, truD_tup, truD_lst, truD_str, truD_ref, tAndD, tOrD, tNotD, vOf, eIf, vNot, dNeg, fAdd_int, fAdd_tup, fSub, fMul, fDiv, fMod, fPow, fShl, fLt, fLe, fGt, fGe, fEq, fNe, fIx_tup, fIx_lst, fIx_ref, aNil, aCons, dTup, dLst, dLstR, dB, bAbs, bLen_tup, bLen_lst, bLen_ref, bMax, bMin, bInt_int, bInt_bl, dBits, dCall, iVal, iR1, iR2, List.map_cons, List.map_nil, List.length_cons, List.length_nil, List.replicate, List.cons_append, List.nil_append, List.append_nil, List.set, List.getElem?_cons_zero, List.getElem?_cons_succ, List.getElem?_nil, atI_0, atI_1, atI_2, ix20, ix21, sup_same, Nat.reduceAdd, Nat.reduceSub, Nat.succ_eq_add_one, decide_eq_true_eq, Bool.not_eq_true', decide_eq_false_iff_not, true_and, and_true, Bool.true_eq_false, Bool.false_eq_true, if_true, if_false, reduceCtorEq]
  refine ⟨ha.cmul hd' (by omega), hc.cmul hb' (by omega), hb'.cmul hd' (by omega), ?_⟩
  exact frac_spec (n := n + n + 1) (Int.mul_ne_zero hb hd) ((ha.mul hd').add (hc.mul hb')) ((hb'.mul hd').mono (by omega)) (by omega) h k
theorem sign_of_spec {i : Int} {S : Sto} {Q : DK} {E : EK} (k : Q (.int i.sign) S) : m_sign_of [.int i] S Q E := by
  unfold m_sign_of t_sign_of
  simp only [fnD, sNx, sSeq, sRet, sRetN, sDrop, sIf, sBrk, sCnt, sAsg, sPar, sAug, sSub, setD, sThru, asgT, asgL, itemsOf, vr, cn, dTwo, tbl, ttr, truD_bl, truD_int, truD_non, truD_tup, truD_lst, truD_str, truD_ref, tAndD, tOrD, tNotD, vOf, eIf, vNot, dNeg, fAdd_int, fAdd_tup, fSub, fMul, fDiv, fMod, fPow, fShl, fLt, fLe, fGt, fGe, fEq, fNe, fIx_tup, fIx_lst, fIx_ref, aNil, aCons, dTup, dLst, dLstR, dB, bAbs, bLen_tup, bLen_lst, bLen_ref, bMax, bMin, bInt_int, bInt_bl, dBits, dCall, iVal, iR1, iR2, List.map_cons, List.map_nil, List.length_cons, List.length_nil, List.replicate, List.cons_append, List.nil_append, List.append_nil, List.set, List.getElem?_cons_zero, List.getElem?_cons_succ, List.getElem?_nil, atI_0, atI_1, atI_2, ix20, ix21, sup_same, Nat.reduceAdd, Nat.reduceSub, Nat.succ_eq_add_one, decide_eq_true_eq, Bool.not_eq_true', decide_eq_false_iff_not, true_and, and_true, Bool.true_eq_false, Bool.false_eq_true, if_true, if_false, reduceCtorEq]
  have : ((if 0 < i then 1 else 0) - (if i < 0 then 1 else 0) : Int) = i.sign := by
    rcases Int.lt_trichotomy i 0 with z | z | z
    · rw [Int.sign_eq_neg_one_of_neg z, if_neg (by omega), if_pos z]; rfl
    · subst z; rfl
    · rw [Int.sign_eq_one_of_pos z, if_pos z, if_neg (by omega)]; rfl
  rw [this]
  exact k
theorem root_two {b q : Rat} {s : Int} {n : Nat} {S : Sto} {N : Nd} (hb : sr n b) (hq : sr n q) (hn0 : 0 ≤ q.num) (hs : s = -1 ∨ s = 0 ∨ s = 1) (hn : n ≤ 4400) (k : N.rt (rt ⟨b + s * sqr q, 0, 0⟩) S) :
    (sRet (dTup (aCons (dCall m_plus 2 0 (fun ds _ => ds) (aCons (vr 0) (aCons (dTup (aCons (dTwo (vr 1) (dCall m_whole_root 1 0 (fun ds _ => ds) (aCons (dTwo (vr 2) (cn (.int 0)) fIx) (aNil)) aNil) fMul) (aCons (dCall m_whole_root 1 0 (fun ds _ => ds) (aCons (dTwo (vr 2) (cn (.int 1)) fIx) (aNil)) aNil) (aNil)))) (aNil))) aNil) (aCons (cn (.int 0)) (aCons (cn k_ZERO) (aNil)))))) [some (fr b), some (.int s), some (fr q)] S N := by
  have s1 := isq_sm hn0 hq.n
  have s2 : sm n (isq q.den) := isq_sm (n := q.den) (by omega) hq.d
  have ss : sm 1 s := by unfold sm; omega
  refine ⟨rfl, rfl, whole_root_spec hn0 hq.n (by omega) ⟨ss.cmul s1 (by omega), ?_⟩⟩
  refine ⟨rfl, rfl, whole_root_spec (n := q.den) (by omega) hq.d (by omega) ⟨by show 2 ≤ sizeLine; decide, ?_⟩⟩
  refine ⟨rfl, rfl, ?_⟩
  rw [Int.toNat_natCast]
  refine plus_spec (n := n + 1) (r := b + s * sqr q) (den_ne b) (isq_den q) (hb.n.mono (by omega)) (hb.d.mono (by omega)) ((ss.mul s1).mono (by omega)) (s2.mono (by omega)) (by omega) ?_ ⟨by show 3 ≤ sizeLine; decide, k⟩
  have e1 := num_den b
  have e3 : sqr q * ((isq q.den : Int) : Rat) = ((isq q.num.toNat : Int) : Rat) := Rat.div_mul_cancel (castne (isq_den q))
  simp only [Rat.intCast_mul, Rat.intCast_add]
  grind
theorem root_spec {b q : Rat} {s : Int} {n : Nat} {S : Sto} {Q : DK} {E : EK} (hb : sr n b) (hq : sr n q) (hq0 : 0 ≤ q) (hs : s = -1 ∨ s = 0 ∨ s = 1) (hn : n ≤ 4400) (k : Q (rt (canon b s q)) S) : m_root [fr b, .int s, fr q] S Q E := by
  have z0 : q.num = 0 ↔ q = 0 := Rat.num_eq_zero
  have hn0 : 0 ≤ q.num := Rat.num_nonneg.mpr hq0
  have two := fun N => @root_two b q s n S N hb hq hn0 hs hn
  unfold m_root t_root
  revert two
  generalize sRet (dTup (aCons (dCall m_plus 2 0 (fun ds _ => ds) (aCons (vr 0) (aCons (dTup (aCons (dTwo (vr 1) (dCall m_whole_root 1 0 (fun ds _ => ds) (aCons (dTwo (vr 2) (cn (.int 0)) fIx) (aNil)) aNil) fMul) (aCons (dCall m_whole_root 1 0 (fun ds _ => ds) (aCons (dTwo (vr 2) (cn (.int 1)) fIx) (aNil)) aNil) (aNil)))) (aNil))) aNil) (aCons (cn (.int 0)) (aCons (cn k_ZERO) (aNil))))) = R2
  intro two
  unfold canon at k
  refine ⟨rfl, ?_⟩
  show if decide (q.num < 0) = true then _ else _
  rw [if_neg (by simpa using hn0)]
  refine ⟨ok_int _, ok_int _, ?_⟩
  rw [eq_int]
  show if decide (s = 0) = true then _ else _
  by_cases h : s = 0
  · rw [if_pos (decide_eq_true h)]
    rw [if_pos (.inl h)] at k
    exact ⟨by show 3 ≤ sizeLine; decide, k⟩
  · rw [if_neg (by simpa using h)]
    refine ⟨ok_int _, ok_int _, ?_⟩
    rw [eq_int]
    show if decide (q.num = 0) = true then _ else _
    by_cases h2 : q.num = 0
    · rw [if_pos (decide_eq_true h2)]
      rw [if_pos (.inr (z0.mp h2))] at k
      exact ⟨by show 3 ≤ sizeLine; decide, k⟩
    · rw [if_neg (by simpa using h2)]
      rw [if_neg (fun z => z.elim h fun z => h2 (z0.mpr z))] at k
      refine ⟨rfl, rfl, is_square_spec hn0 hq.n (by omega) ?_⟩
      show if decide _ = true then _ else _
      by_cases h3 : (isq q.num.toNat : Int) * isq q.num.toNat = q.num
      · rw [if_pos (decide_eq_true h3)]
        refine ⟨rfl, rfl, is_square_spec (n := q.den) (by omega) hq.d (by omega) ?_⟩
        rw [Int.toNat_natCast]
        show if decide _ = true then _ else _
        by_cases h4 : (isq q.den : Int) * isq q.den = q.den
        · rw [if_pos (decide_eq_true h4)]
          rw [if_pos ⟨h3, h4⟩] at k
          exact two _ k
        · rw [if_neg (by simpa using h4)]
          rw [if_neg fun z => h4 z.2] at k
          exact ⟨by show 3 ≤ sizeLine; decide, k⟩
      · rw [if_neg (by simpa using h3)]
        rw [if_neg fun z => h3 z.1] at k
        exact ⟨by show 3 ≤ sizeLine; decide, k⟩
theorem vr_go {i : Nat} {env : Ev} {d : D} {S : Sto} {Q : DK} {E : EK} (h : env[i]? = some (some d)) (k : Q d S) : vr i env S Q E := by
  unfold vr
  rw [h]
  exact k
/-! ### the script's cells -/
theorem cell_spec {ns : List Int} {i : Int} {S : Sto} {Q : DK} {E : EK} (h : 0 ≤ i) (k : ∀ c : Int, Q (.int c) S) : m_l_cell_at [.lst (ns.map D.int), .int i] S Q E := by
  unfold m_l_cell_at t_l_cell_at
  simp only [fnD, sNx, sSeq, sRet, sRetN, sDrop, sIf, sBrk, sCnt, sAsg, sPar, sAug, sSub, setD, sThru, asgT, asgL, itemsOf, vr, cn, dTwo, tbl, ttr, truD_bl, truD_int, truD_non, truD_tup, truD_lst, truD_str, truD_ref, tAndD, tOrD, tNotD, vOf, eIf, vNot, dNeg, fAdd_int, fAdd_tup, fSub, fMul, fDiv, fMod, fPow, fShl, fLt, fLe, fGt, fGe, fEq, fNe, fIx_tup, fIx_lst, fIx_ref, aNil, aCons, dTup, dLst, dLstR, dB, bAbs, bLen_tup, bLen_lst, bLen_ref, bMax, bMin, bInt_int, bInt_bl, dBits, dCall, iVal, iR1, iR2, List.map_cons, List.map_nil, List.length_cons, List.length_nil, List.replicate, List.cons_append, List.nil_append, List.append_nil, List.set, List.getElem?_cons_zero, List.getElem?_cons_succ, List.getElem?_nil, atI_0, atI_1, atI_2, ix20, ix21, sup_same, Nat.reduceAdd, Nat.reduceSub, Nat.succ_eq_add_one, decide_eq_true_eq, Bool.not_eq_true', decide_eq_false_iff_not, true_and, and_true, Bool.true_eq_false, Bool.false_eq_true, if_true, if_false, reduceCtorEq]
  rw [List.length_map]
  split
  · rename_i hi
    have e : atI (ns.map D.int) i = some (.int (ns.getD i.toNat 0)) := by
      have : i = (i.toNat : Int) := by omega
      conv => lhs; rw [this]
      refine atI_nat ?_
      rw [List.getElem?_map, List.getD_eq_getElem?_getD, List.getElem?_eq_getElem (by omega)]
      rfl
    simp only [e, fnD, sNx, sSeq, sRet, sRetN, sDrop, sIf, sBrk, sCnt, sAsg, sPar, sAug, sSub, setD, sThru, asgT, asgL, itemsOf, vr, cn, dTwo, tbl, ttr, truD_bl, truD_int, truD_non, truD_tup, truD_lst, truD_str, truD_ref, tAndD, tOrD, tNotD, vOf, eIf, vNot, dNeg, fAdd_int, fAdd_tup, fSub, fMul, fDiv, fMod, fPow, fShl, fLt, fLe, fGt, fGe, fEq, fNe, fIx_tup, fIx_lst, fIx_ref, aNil, aCons, dTup, dLst, dLstR, dB, bAbs, bLen_tup, bLen_lst, bLen_ref, bMax, bMin, bInt_int, bInt_bl, dBits, dCall, iVal, iR1, iR2, List.map_cons, List.map_nil, List.length_cons, List.length_nil, List.replicate, List.cons_append, List.nil_append, List.append_nil, List.set, List.getElem?_cons_zero, List.getElem?_cons_succ, List.getElem?_nil, atI_0, atI_1, atI_2, ix20, ix21, sup_same, Nat.reduceAdd, Nat.reduceSub, Nat.succ_eq_add_one, decide_eq_true_eq, Bool.not_eq_true', decide_eq_false_iff_not, true_and, and_true, Bool.true_eq_false, Bool.false_eq_true, if_true, if_false, reduceCtorEq]
    exact k _
  · exact k _
theorem forD_ints {g : Tg} {b : TSd} {N : Nd} (P : Nat → Ev → Sto → Prop) {n : Nat} {lo : Int} (turn : ∀ i env S, i < n → P i env S → ∃ e1, asgT S g (.int (lo + i)) env = some e1 ∧ ∀ N' : Nd, (∀ e s, P (i + 1) e s → N'.nx e s) → (∀ e s, P (i + 1) e s → N'.ct e s) → N'.rt = N.rt → N'.bk = N.nx → N'.ex = N.ex → b e1 S N') (fin : ∀ env S, P n env S → N.nx env S) : ∀ (m : Nat) (i : Nat) {env : Ev} {S : Sto}, i + m = n → P i env S → forD g b ((List.range' i m).map fun i : Nat => D.int (lo + i)) env S N
  | 0, i, env, S, hi, h => by
    have : i = n := by omega
    subst this
    exact fin _ _ h
  | m + 1, i, env, S, hi, h => by
    obtain ⟨e1, ea, hb⟩ := turn i env S (by omega) h
    rw [List.range'_succ, List.map_cons]
    unfold forD
    rw [ea]
    exact hb _ (fun e s q => forD_ints P turn fin m (i + 1) (by omega) q) (fun e s q => forD_ints P turn fin m (i + 1) (by omega) q) rfl rfl rfl
theorem forD_rng {g : Tg} {b : TSd} {N : Nd} (P : Nat → Ev → Sto → Prop) {n : Nat} {lo : Int} {env : Ev} {S : Sto} (h : P 0 env S)
    (turn : ∀ i env S, i < n → P i env S → ∃ e1, asgT S g (.int (lo + i)) env = some e1 ∧ ∀ N' : Nd, (∀ e s, P (i + 1) e s → N'.nx e s) → (∀ e s, P (i + 1) e s → N'.ct e s) → N'.rt = N.rt → N'.bk = N.nx → N'.ex = N.ex → b e1 S N') (fin : ∀ env S, P n env S → N.nx env S) : forD g b (rngD lo n) env S N := by
  unfold rngD
  rw [List.range_eq_range']
  exact forD_ints P turn fin n 0 (by omega) h
theorem bag_spec {ns : List Int} {i : Int} {S : Sto} {Q : DK} {E : EK} (h : 0 ≤ i) (h2 : i < 10000) (k : ∀ a S', S a = none → Bg S' a → Fr S S' a → Q (.ref a) S') : m_l_bag [.lst (ns.map D.int), .int i] S Q E := by
  unfold m_l_bag t_l_bag
  simp only [fnD, sNx, sSeq, sRet, sRetN, sDrop, sIf, sBrk, sCnt, sAsg, sPar, sAug, sSub, setD, sThru, asgT, asgL, itemsOf, vr, cn, dTwo, tbl, ttr, truD_bl, truD_int, truD_non, truD_tup, truD_lst, truD_str, truD_ref, tAndD, tOrD, tNotD, vOf, eIf, vNot, dNeg, fAdd_int, fAdd_tup, fSub, fMul, fDiv, fMod, fPow, fShl, fLt, fLe, fGt, fGe, fEq, fNe, fIx_tup, fIx_lst, fIx_ref, aNil, aCons, dTup, dLst, dLstR, dB, bAbs, bLen_tup, bLen_lst, bLen_ref, bMax, bMin, bInt_int, bInt_bl, dBits, dCall, iVal, iR1, iR2, List.map_cons, List.map_nil, List.length_cons, List.length_nil, List.replicate, List.cons_append, List.nil_append, List.append_nil, List.set, List.getElem?_cons_zero, List.getElem?_cons_succ, List.getElem?_nil, atI_0, atI_1, atI_2, ix20, ix21, sup_same, Nat.reduceAdd, Nat.reduceSub, Nat.succ_eq_add_one, decide_eq_true_eq, Bool.not_eq_true', decide_eq_false_iff_not, true_and, and_true, Bool.true_eq_false, Bool.false_eq_true, if_true, if_false, reduceCtorEq]
  refine ⟨by decide, cell_spec h fun c => ?_⟩
  refine ⟨(sm.of (n := 13) (by decide)).cmul (sm.of (n := 14) (by omega)) (by decide), ?_⟩
  unfold sFor
  simp only [fnD, sNx, sSeq, sRet, sRetN, sDrop, sIf, sBrk, sCnt, sAsg, sPar, sAug, sSub, setD, sThru, asgT, asgL, itemsOf, vr, cn, dTwo, tbl, ttr, truD_bl, truD_int, truD_non, truD_tup, truD_lst, truD_str, truD_ref, tAndD, tOrD, tNotD, vOf, eIf, vNot, dNeg, fAdd_int, fAdd_tup, fSub, fMul, fDiv, fMod, fPow, fShl, fLt, fLe, fGt, fGe, fEq, fNe, fIx_tup, fIx_lst, fIx_ref, aNil, aCons, dTup, dLst, dLstR, dB, bAbs, bLen_tup, bLen_lst, bLen_ref, bMax, bMin, bInt_int, bInt_bl, dBits, dCall, iVal, iR1, iR2, List.map_cons, List.map_nil, List.length_cons, List.length_nil, List.replicate, List.cons_append, List.nil_append, List.append_nil, List.set, List.getElem?_cons_zero, List.getElem?_cons_succ, List.getElem?_nil, atI_0, atI_1, atI_2, ix20, ix21, sup_same, Nat.reduceAdd, Nat.reduceSub, Nat.succ_eq_add_one, decide_eq_true_eq, Bool.not_eq_true', decide_eq_false_iff_not, true_and, and_true, Bool.true_eq_false, Bool.false_eq_true, if_true, if_false, reduceCtorEq]
  refine ⟨by decide, by decide, ?_⟩
  refine forD_rng (fun j e s => ∃ mix : Int, ∃ o5 o6, e = [some (.lst (ns.map D.int)), some (.int i), some (.tup [.int 99991, .int 99971, .int 99961, .int 99929, .int 99923, .int 99907, .int 99901, .int 99881, .int 99877]), some (.int c), some (.int mix), o5, o6] ∧ s = S ∧ 0 ≤ mix ∧ mix < 2147483647) ⟨_, _, _, rfl, rfl, by omega, by omega⟩ ?_ ?_
  · rintro j e s hj ⟨mix, o5, o6, rfl, rfl, m0, m1⟩
    refine ⟨_, rfl, fun N' hnx _ _ _ _ => ?_⟩
    simp only [fnD, sNx, sSeq, sRet, sRetN, sDrop, sIf, sBrk, sCnt, sAsg, sPar, sAug, sSub, setD, sThru, asgT, asgL, itemsOf, vr, cn, dTwo, tbl, ttr, truD_bl, truD_int, truD_non, truD_tup, truD_lst, truD_str, truD_ref, tAndD, tOrD, tNotD, vOf, eIf, vNot, dNeg, fAdd_int, fAdd_tup, fSub, fMul, fDiv, fMod, fPow, fShl, fLt, fLe, fGt, fGe, fEq, fNe, fIx_tup, fIx_lst, fIx_ref, aNil, aCons, dTup, dLst, dLstR, dB, bAbs, bLen_tup, bLen_lst, bLen_ref, bMax, bMin, bInt_int, bInt_bl, dBits, dCall, iVal, iR1, iR2, List.map_cons, List.map_nil, List.length_cons, List.length_nil, List.replicate, List.cons_append, List.nil_append, List.append_nil, List.set, List.getElem?_cons_zero, List.getElem?_cons_succ, List.getElem?_nil, atI_0, atI_1, atI_2, ix20, ix21, sup_same, Nat.reduceAdd, Nat.reduceSub, Nat.succ_eq_add_one, decide_eq_true_eq, Bool.not_eq_true', decide_eq_false_iff_not, true_and, and_true, Bool.true_eq_false, Bool.false_eq_true, if_true, if_false, reduceCtorEq]
    refine cell_spec (by omega) fun c2 => ?_
    have g0 := fmod_pos (a := c2) (b := 10 ^ (18 : Int).toNat) (by decide +kernel)
    have e18 : (10 : Int) ^ (18 : Int).toNat = 1000000000000000000 := rfl
    rw [e18] at g0 ⊢
    have : ∃ p : Int, 0 < p ∧ p < 100000 ∧ atI [D.int 99991, .int 99971, .int 99961, .int 99929, .int 99923, .int 99907, .int 99901, .int 99881, .int 99877] (0 + (j : Int)) = some (.int p) := by
      have hn : ∀ (k : Nat) (p : Int), j = k → [D.int 99991, .int 99971, .int 99961, .int 99929, .int 99923, .int 99907, .int 99901, .int 99881, .int 99877][k]? = some (.int p) → atI [D.int 99991, .int 99971, .int 99961, .int 99929, .int 99923, .int 99907, .int 99901, .int 99881, .int 99877] (0 + (j : Int)) = some (.int p) := fun k p e1 e2 => by
        have : (0 + (j : Int)) = (k : Int) := by omega
        rw [this]
        exact atI_nat e2
      rcases (by omega : j = 0 ∨ j = 1 ∨ j = 2 ∨ j = 3 ∨ j = 4 ∨ j = 5 ∨ j = 6 ∨ j = 7 ∨ j = 8) with h | h | h | h | h | h | h | h | h
      · exact ⟨_, by decide, by decide, hn 0 99991 h rfl⟩
      · exact ⟨_, by decide, by decide, hn 1 99971 h rfl⟩
      · exact ⟨_, by decide, by decide, hn 2 99961 h rfl⟩
      · exact ⟨_, by decide, by decide, hn 3 99929 h rfl⟩
      · exact ⟨_, by decide, by decide, hn 4 99923 h rfl⟩
      · exact ⟨_, by decide, by decide, hn 5 99907 h rfl⟩
      · exact ⟨_, by decide, by decide, hn 6 99901 h rfl⟩
      · exact ⟨_, by decide, by decide, hn 7 99881 h rfl⟩
      · exact ⟨_, by decide, by decide, hn 8 99877 h rfl⟩
    obtain ⟨p, p0, p1, ep⟩ := this
    simp only [ep, fnD, sNx, sSeq, sRet, sRetN, sDrop, sIf, sBrk, sCnt, sAsg, sPar, sAug, sSub, setD, sThru, asgT, asgL, itemsOf, vr, cn, dTwo, tbl, ttr, truD_bl, truD_int, truD_non, truD_tup, truD_lst, truD_str, truD_ref, tAndD, tOrD, tNotD, vOf, eIf, vNot, dNeg, fAdd_int, fAdd_tup, fSub, fMul, fDiv, fMod, fPow, fShl, fLt, fLe, fGt, fGe, fEq, fNe, fIx_tup, fIx_lst, fIx_ref, aNil, aCons, dTup, dLst, dLstR, dB, bAbs, bLen_tup, bLen_lst, bLen_ref, bMax, bMin, bInt_int, bInt_bl, dBits, dCall, iVal, iR1, iR2, List.map_cons, List.map_nil, List.length_cons, List.length_nil, List.replicate, List.cons_append, List.nil_append, List.append_nil, List.set, List.getElem?_cons_zero, List.getElem?_cons_succ, List.getElem?_nil, atI_0, atI_1, atI_2, ix20, ix21, sup_same, Nat.reduceAdd, Nat.reduceSub, Nat.succ_eq_add_one, decide_eq_true_eq, Bool.not_eq_true', decide_eq_false_iff_not, true_and, and_true, Bool.true_eq_false, Bool.false_eq_true, if_true, if_false, reduceCtorEq]
    have g1 := fmod_pos (a := (c2.fmod 1000000000000000000 + 11 * (0 + (j : Int)) + 1) ^ (3 : Int).toNat) p0
    have g2 := fmod_pos (a := mix * 48271 + ((c2.fmod 1000000000000000000 + 11 * (0 + (j : Int)) + 1) ^ (3 : Int).toNat).fmod p) (b := 2147483629) (by omega)
    have hb := (sm.of (n := 61) (i := c2.fmod 1000000000000000000 + 11 * (0 + (j : Int)) + 1) (by omega)).bits
    refine ⟨by decide, by decide, by decide, (sm.of (n := 5) (by decide)).cmul (sm.of (n := 5) (by omega)) (by decide), (sm.of (n := 31) (by omega)).cmul (sm.of (n := 16) (by decide)) (by decide), by decide, by omega, by omega, by decide, hnx _ _ ⟨_, _, _, rfl, rfl, g2.1, by omega⟩⟩
  · rintro e s ⟨mix, o5, o6, rfl, rfl, m0, m1⟩
    simp only [fnD, sNx, sSeq, sRet, sRetN, sDrop, sIf, sBrk, sCnt, sAsg, sPar, sAug, sSub, setD, sThru, asgT, asgL, itemsOf, vr, cn, dTwo, tbl, ttr, truD_bl, truD_int, truD_non, truD_tup, truD_lst, truD_str, truD_ref, tAndD, tOrD, tNotD, vOf, eIf, vNot, dNeg, fAdd_int, fAdd_tup, fSub, fMul, fDiv, fMod, fPow, fShl, fLt, fLe, fGt, fGe, fEq, fNe, fIx_tup, fIx_lst, fIx_ref, aNil, aCons, dTup, dLst, dLstR, dB, bAbs, bLen_tup, bLen_lst, bLen_ref, bMax, bMin, bInt_int, bInt_bl, dBits, dCall, iVal, iR1, iR2, List.map_cons, List.map_nil, List.length_cons, List.length_nil, List.replicate, List.cons_append, List.nil_append, List.append_nil, List.set, List.getElem?_cons_zero, List.getElem?_cons_succ, List.getElem?_nil, atI_0, atI_1, atI_2, ix20, ix21, sup_same, Nat.reduceAdd, Nat.reduceSub, Nat.succ_eq_add_one, decide_eq_true_eq, Bool.not_eq_true', decide_eq_false_iff_not, true_and, and_true, Bool.true_eq_false, Bool.false_eq_true, if_true, if_false, reduceCtorEq]
    have fin : ∀ (c' : Int) (a : Addr), 0 ≤ c' → s a = none → Q (.ref a) (sup s a [.int c', .int (mix + 1)]) := fun c' a hc ha => k a _ ha ⟨_, _, sup_same, hc, by omega, by omega⟩ Fr.sup
    have e18 : (10 : Int) ^ (18 : Int).toNat = 1000000000000000000 := rfl
    rw [e18]
    refine ⟨by decide, by decide, ?_⟩
    split
    · exact ⟨by decide, fun a ha => fin 0 a (by omega) ha⟩
    · exact ⟨by decide, fun a ha => fin c a (by omega) ha⟩
end Lb

namespace Lb
open PySem PySem.Spec PyProof.Rows L2 Bl
theorem ok_rt (x : Rt) : okD (rt x) := ⟨rfl, rfl⟩
theorem rt_eq {x y : Rt} (h : x = y) : eqD (rt x) (rt y) = true := by
  subst h
  have e := eq_fr x.b x.b
  have e2 := eq_fr x.q x.q
  rw [decide_eq_true rfl] at e e2
  show (eqD (fr x.b) (fr x.b) && ((x.s == x.s) && (eqD (fr x.q) (fr x.q) && true))) = true
  rw [e, e2, beq_self_eq_true]
  rfl
/-- in its form -/
def Cn (x : Rt) : Prop := (x.s = 0 ∧ x.q = 0) ∨ (x.s ≠ 0 ∧ x.q ≠ 0 ∧ ¬ sqb x.q)
theorem canon_cn (b : Rat) (s : Int) (q : Rat) : Cn (canon b s q) := by
  unfold canon Cn
  split
  · exact .inl ⟨rfl, rfl⟩
  · rename_i h
    split
    · exact .inl ⟨rfl, rfl⟩
    · rename_i h2
      exact .inr ⟨fun z => h (.inl z), fun z => h (.inr z), h2⟩
theorem ne_rt {x y : Rt} (h : x = y) : (!eqD (rt x) (rt y)) = false := by rw [rt_eq h]; rfl
theorem ne_go {x y : Rt} {S : Sto} {Q : DK} (h : x = y) (k : Q (.bl false) S) : fNe (rt x) (rt y) S Q := ⟨ok_rt _, ok_rt _, by rw [ne_rt h]; exact k⟩
theorem sqr_sr {n : Nat} {q : Rat} (h : sr n q) (h0 : 0 ≤ q) : sr n (sqr q) := by
  have z := low_sm (r := sqr q) (isq_den q) (Rat.div_mul_cancel (castne (isq_den q))) (isq_sm (Rat.num_nonneg.mpr h0) h.n) (isq_sm (n := q.den) (by omega) h.d)
  exact ⟨z.1, z.2⟩
theorem sr_s {s : Int} (h : s = -1 ∨ s = 0 ∨ s = 1) : sr 1 (s : Rat) := by
  rcases h with h | h | h <;> subst h <;> exact sr.int (sm.of (by decide)) (by decide)
theorem canon_sr {n m : Nat} {b q : Rat} {s : Int} (hb : sr n b) (hq : sr m q) (h0 : 0 ≤ q) (hs : s = -1 ∨ s = 0 ∨ s = 1) : sr (n + m + 2) (canon b s q).b ∧ sr (m + 1) (canon b s q).q ∧ 0 ≤ (canon b s q).q ∧ ((canon b s q).s = -1 ∨ (canon b s q).s = 0 ∨ (canon b s q).s = 1) := by
  unfold canon
  split
  · exact ⟨hb.mono (by omega), sr.zero, Rat.le_refl, .inr (.inl rfl)⟩
  · split
    · exact ⟨(hb.add ((sr_s hs).mul (sqr_sr hq h0))).mono (by omega), sr.zero, Rat.le_refl, .inr (.inl rfl)⟩
    · exact ⟨hb.mono (by omega), hq.mono (by omega), h0, hs⟩
theorem sr_inv {n : Nat} {g : Rat} (hg : g ≠ 0) (h : sr n g) : sr n g⁻¹ := by
  have z := low_sm (p := g.den) (q := g.num) (r := g⁻¹) (fun z => hg (Rat.num_eq_zero.mp z)) (by
    have z := Rat.mul_inv_cancel g hg
    have e := num_den g
    grind) h.d h.n
  exact ⟨z.1, z.2⟩

theorem isi_int (i : Int) : isiD "int" (.int i) = some true := by
  show L2.kitB "int" "int" = some true
  decide +kernel
theorem isi_tup (ds : List D) : isiD "tuple" (.tup ds) = some true := by
  show L2.kitB "tuple" "tuple" = some true
  decide +kernel
end Lb

/-! The steps of the transformers as rules, for a tactic that goes on as long as one rule fits. -/
namespace Go
open PySem PySem.Spec PyProof.Rows L2 Bl Lb
section
variable {env : Ev} {l : Ev} {S S1 : Sto} {Q : DK} {E : EK} {nx bk ct : Ev → Sto → Prop} {rt : DK} {ex : Xc → Ev → Sto → Prop} {t u : TSd} {ta tb te : TEd} {tt tu : TTd} {a b : D} {P : Bool → Sto → Prop}
def asgK (S : Sto) (g : Tg) (d : D) (env : Ev) (nx : Ev → Sto → Prop) : Prop := match asgT S g d env with
  | some e => nx e S
  | none => False
def parK (S : Sto) (is : List Nat) (ds : List D) (env : Ev) (nx : Ev → Sto → Prop) : Prop := match asgL S (is.map .nm) ds env with
  | some e => nx e S
  | none => False
def ifK (b : Bool) (A B : Prop) : Prop := if b = true then A else B
def tblK (d : D) (S : Sto) (Q : Bool → Sto → Prop) : Prop := match d with | .bl b => Q b S | _ => False
def seqLst (ds : List D) (S : Sto) (Q : DK) : Prop := ds.length ≤ sizeLine ∧ Q (.lst ds) S
theorem gAll {xs : List D} (k : bAll [.lst xs] S Q) : bAll [.lst xs] S Q := k
theorem gVr {i : Nat} (k : vr i env S Q E) : vr i env S Q E := k
def wipeK (vs : List Nat) (env : Ev) (k : Ev → Prop) : Prop := k (wipeD env vs)
def unsK (i : Nat) (env : Ev) (k : Ev → Prop) : Prop := k (env.set i none)
def getLL (ks : List Str) (ds : List D) (ty tx : TEd) (env : Ev) (S : Sto) (Q : DK) (E : EK) : Prop := ds.length = ks.length ∧ ty env S (fun y S2 => tx env S2 (fun z S3 => match y with
  | .str x => Q ((lookD ks ds x).getD z) S3
  | _ => False) E) E
theorem gUns {i : Nat} {k : Ev → Prop} (h : unsK i env k) : unsK i env k := h
theorem gAsg {g : Tg} (k : asgK S g a env nx) : asgK S g a env nx := k
theorem gStar {i aft : Nat} {gs : List Tg} (k : starK i aft gs a env S nx) : starK i aft gs a env S nx := k
theorem gAug {i : Nat} {f : F2} (k : sAug i te f env S ⟨nx, rt, bk, ct, ex⟩) : sAug i te f env S ⟨nx, rt, bk, ct, ex⟩ := k
theorem gIxT {ds : List D} (k : fIx (.tup ds) b S Q) : fIx (.tup ds) b S Q := k
theorem gIxL {ds : List D} (k : fIx (.lst ds) b S Q) : fIx (.lst ds) b S Q := k
def isiK (T : String) (d : D) (S : Sto) (Q : DK) : Prop := match isiD T d with | some b => Q (.bl b) S | none => False
def enumK (d : D) (S : Sto) (Q : List D → Sto → Prop) : Prop := match seqD d with | some ds => Q (enumD ds) S | none => False
def revK (d : D) (S : Sto) (Q : List D → Sto → Prop) : Prop := match seqD d with | some ds => Q ds.reverse S | none => False
theorem enumT {ds : List D} {Q : List D → Sto → Prop} (k : Q (enumD ds) S) : enumK (.tup ds) S Q := k
theorem revT {ds : List D} {Q : List D → Sto → Prop} (k : Q ds.reverse S) : revK (.tup ds) S Q := k
theorem revL {ds : List D} {Q : List D → Sto → Prop} (k : Q ds.reverse S) : revK (.lst ds) S Q := k
theorem zipT {ds es : List D} {Q : List D → Sto → Prop} (k : Q (zipD ds es) S) : zipK (.tup ds) (.tup es) S Q := k
theorem zipL {ds es : List D} {Q : List D → Sto → Prop} (k : Q (zipD ds es) S) : zipK (.lst ds) (.lst es) S Q := k
def iValK (d : D) (S : Sto) (Q : List D → Sto → Prop) : Prop := match d with | .tup ds => Q ds S | .lst ds => Q ds S | _ => False
theorem iValT {ds : List D} {Q : List D → Sto → Prop} (k : Q ds S) : iValK (.tup ds) S Q := k
theorem iValL {ds : List D} {Q : List D → Sto → Prop} (k : Q ds S) : iValK (.lst ds) S Q := k
theorem isiK' {T : String} {b : Bool} (h : isiD T a = some b) (k : Q (.bl b) S) : isiK T a S Q := by
  unfold isiK
  rw [h]
  exact k
theorem nx' (k : nx env S) : sNx env S ⟨nx, rt, bk, ct, ex⟩ := k
theorem seq (k : t env S ⟨fun e S1 => u e S1 ⟨nx, rt, bk, ct, ex⟩, rt, bk, ct, ex⟩) : sSeq t u env S ⟨nx, rt, bk, ct, ex⟩ := k
theorem ret (k : te env S rt fun x S1 => ex x env S1) : sRet te env S ⟨nx, rt, bk, ct, ex⟩ := k
theorem retN (k : rt .non S) : sRetN env S ⟨nx, rt, bk, ct, ex⟩ := k
theorem drop (k : te env S (fun _ S1 => nx env S1) fun x S1 => ex x env S1) : sDrop te env S ⟨nx, rt, bk, ct, ex⟩ := k
theorem brk (k : bk env S) : sBrk env S ⟨nx, rt, bk, ct, ex⟩ := k
theorem cnt (k : ct env S) : sCnt env S ⟨nx, rt, bk, ct, ex⟩ := k
theorem if' (k : tt env S (fun b S1 => ifK b (t env S1 ⟨nx, rt, bk, ct, ex⟩) (u env S1 ⟨nx, rt, bk, ct, ex⟩)) fun x S1 => ex x env S1) : sIf tt t u env S ⟨nx, rt, bk, ct, ex⟩ := k
theorem asg {g : Tg} (k : te env S (fun d S1 => asgK S1 g d env nx) fun x S1 => ex x env S1) : sAsg te g env S ⟨nx, rt, bk, ct, ex⟩ := k
theorem par {is : List Nat} {t : TAd} (k : t env S (fun ds S1 => parK S1 is ds env nx) fun x S1 => ex x env S1) : sPar is t env S ⟨nx, rt, bk, ct, ex⟩ := k
theorem raise {x : Str} (k : ex ⟨x, []⟩ env S) : sRaise x env S ⟨nx, rt, bk, ct, ex⟩ := k
theorem thru (k : t env S ⟨fun e s => u e s ⟨nx, rt, bk, ct, ex⟩, rt, bk, ct, fun _ _ _ => False⟩) : sThru t u env S ⟨nx, rt, bk, ct, ex⟩ := k
theorem tryAs {sb : Str → Option Bool} {i : Nat} {v : Addr → Str → TSd} (k : t env S (ndT sb i v ⟨nx, rt, bk, ct, ex⟩)) : sTryAs t sb i v env S ⟨nx, rt, bk, ct, ex⟩ := k
theorem for' {ti : TAd} {g : Tg} (k : ti env S (fun ds S1 => forD g t ds env S1 ⟨nx, rt, bk, ct, ex⟩) fun x S1 => ex x env S1) : sFor ti g t env S ⟨nx, rt, bk, ct, ex⟩ := k
theorem sub {to ti : TEd} (k : te env S (fun v S1 => to env S1 (fun o S2 => ti env S2 (fun i S3 => setD o i v S3 fun S4 => nx env S4) fun x S3 => ex x env S3) fun x S2 => ex x env S2) fun x S1 => ex x env S1) : sSub te to ti env S ⟨nx, rt, bk, ct, ex⟩ := k
/-! targets -/
theorem tp_cons {g : Tg} {ts : List Tg} {d : D} {ds : List D} (k : asgK S g d env fun e S => asgK S (.tp ts) (.tup ds) e nx) : asgK S (.tp (g :: ts)) (.tup (d :: ds)) env nx := by
  unfold asgK at *
  show match (match asgT S g d env with | some e => asgL S ts ds e | none => none) with | some e => nx e S | none => False
  cases h : asgT S g d env with
  | none => rw [h] at k; exact k.elim
  | some e => rw [h] at k; exact k
theorem tp_nil (k : nx env S) : asgK S (.tp []) (.tup []) env nx := k
theorem par_cons {i : Nat} {is : List Nat} {d : D} {ds : List D} (k : asgK S (.nm i) d env fun e S => parK S is ds e nx) : parK S (i :: is) (d :: ds) env nx := k
theorem par_nil (k : nx env S) : parK S [] [] env nx := k
/-! expressions -/
theorem cn' (k : Q a S) : Bl.cn a env S Q E := k
theorem two {f : F2} (k : ta env S (fun x S1 => tb env S1 (fun y S2 => f x y S2 Q) E) E) : dTwo ta tb f env S Q E := k
theorem nil {Q : List D → Sto → Prop} (k : Q [] S) : aNil env S Q E := k
theorem cons {t : TEd} {u : TAd} {Q : List D → Sto → Prop} (k : t env S (fun d S1 => u env S1 (fun ds S2 => Q (d :: ds) S2) E) E) : aCons t u env S Q E := k
def tupK (ds : List D) (S : Sto) (Q : DK) : Prop := ds.length ≤ sizeLine ∧ Q (.tup ds) S
def lstRK (ds : List D) (S : Sto) (Q : DK) : Prop := ds.length ≤ sizeLine ∧ ∀ a, S a = none → Q (.ref a) (sup S a ds)
theorem tup {t : TAd} (k : t env S (fun ds S1 => tupK ds S1 Q) E) : dTup t env S Q E := k
theorem lst {t : TAd} (k : t env S (fun ds S1 => seqLst ds S1 Q) E) : dLst t env S Q E := k
theorem lstR {t : TAd} (k : t env S (fun ds S1 => lstRK ds S1 Q) E) : dLstR t env S Q E := k
theorem tupK' {ds : List D} (h : Nat.ble ds.length 100 = true) (k : Q (.tup ds) S) : tupK ds S Q := ⟨Nat.le_trans (Nat.le_of_ble_eq_true h) (by decide), k⟩
theorem lstK' {ds : List D} (h : Nat.ble ds.length 100 = true) (k : Q (.lst ds) S) : seqLst ds S Q := ⟨Nat.le_trans (Nat.le_of_ble_eq_true h) (by decide), k⟩
theorem lstRK' {ds : List D} (h : Nat.ble ds.length 100 = true) (k : ∀ a, S a = none → Q (.ref a) (sup S a ds)) : lstRK ds S Q := ⟨Nat.le_trans (Nat.le_of_ble_eq_true h) (by decide), k⟩
theorem tbl' {P : Bool → Sto → Prop} (k : te env S (fun d S' => tblK d S' P) E) : tbl te env S P E := k
theorem tblK' {c : Bool} (k : P c S) : tblK (.bl c) S P := k
theorem ttr' (k : te env S (fun d S' => truD d S' P) E) : ttr te env S P E := k
theorem truB {c : Bool} (k : P c S) : truD (.bl c) S P := k
theorem truI {i : Int} (k : P (i != 0) S) : truD (.int i) S P := k
theorem truN (k : P false S) : truD .non S P := k
theorem and' (k : tt env S (fun c S1 => ifK c (tu env S1 P E) (P false S1)) E) : tAndD tt tu env S P E := k
theorem or' (k : tt env S (fun c S1 => ifK c (P true S1) (tu env S1 P E)) E) : tOrD tt tu env S P E := k
theorem not' (k : tt env S (fun c S1 => P (!c) S1) E) : tNotD tt env S P E := k
theorem vOf' (k : tt env S (fun c S1 => Q (.bl c) S1) E) : vOf tt env S Q E := k
theorem vNot' (k : ta env S (fun d S' => tblK d S' fun c S1 => Q (.bl (!c)) S1) E) : vNot ta env S Q E := k
theorem eIf' (k : tt env S (fun c S1 => ifK c (ta env S1 Q E) (tb env S1 Q E)) E) : eIf tt ta tb env S Q E := k
theorem ifT {A B : Prop} (k : A) : ifK true A B := k
theorem ifF {A B : Prop} (k : B) : ifK false A B := k
theorem ifN {A B : Prop} {c : Bool} (k : ifK c B A) : ifK (!c) A B := by cases c <;> exact k
theorem ifD {A B p : Prop} [Decidable p] (h : p → A) (k : ¬ p → B) : ifK (decide p) A B := by
  unfold ifK
  by_cases c : p
  · rw [if_pos (decide_eq_true c)]; exact h c
  · rw [if_neg (by simpa using c)]; exact k c
theorem ifDT {A B p : Prop} [Decidable p] (h : p) (k : A) : ifK (decide p) A B := ifD (fun _ => k) fun z => absurd h z
theorem ifDF {A B p : Prop} [Decidable p] (h : ¬ p) (k : B) : ifK (decide p) A B := ifD (fun z => absurd z h) fun _ => k
theorem ifBT {A B : Prop} {c : Bool} (h : c = true) (k : A) : ifK c A B := by subst h; exact k
theorem ifBF {A B : Prop} {c : Bool} (h : c = false) (k : B) : ifK c A B := by subst h; exact k
/-! operators -/
variable {i j : Int}
theorem add (k : Q (.int (i + j)) S) : fAdd (.int i) (.int j) S Q := k
theorem addT {ds es : List D} (h : Nat.ble (ds ++ es).length 1000 = true) (k : Q (.tup (ds ++ es)) S) : fAdd (.tup ds) (.tup es) S Q := ⟨by have := Nat.le_of_ble_eq_true h; rw [List.length_append] at this; exact Nat.le_trans this (by decide), k⟩
theorem sub' (k : Q (.int (i - j)) S) : fSub (.int i) (.int j) S Q := k
theorem mul (h : CMul' i j) (k : Q (.int (i * j)) S) : fMul (.int i) (.int j) S Q := ⟨h, k⟩
theorem div (h : CDiv' j) (k : Q (.int (i.fdiv j)) S) : fDiv (.int i) (.int j) S Q := ⟨h, k⟩
theorem mod (h : j ≠ 0) (k : Q (.int (i.fmod j)) S) : fMod (.int i) (.int j) S Q := ⟨h, k⟩
theorem lt (k : Q (.bl (decide (i < j))) S) : fLt (.int i) (.int j) S Q := k
theorem le (k : Q (.bl (decide (i ≤ j))) S) : fLe (.int i) (.int j) S Q := k
theorem gt (k : Q (.bl (decide (j < i))) S) : fGt (.int i) (.int j) S Q := k
theorem ge (k : Q (.bl (decide (j ≤ i))) S) : fGe (.int i) (.int j) S Q := k
theorem eqI (k : Q (.bl (decide (i = j))) S) : fEq (.int i) (.int j) S Q := ⟨ok_int _, ok_int _, by rw [Lb.eq_int]; exact k⟩
theorem neI (k : Q (.bl (!decide (i = j))) S) : fNe (.int i) (.int j) S Q := ⟨ok_int _, ok_int _, by rw [Lb.eq_int]; exact k⟩
theorem eq' (h : okD a) (h2 : okD b) (k : Q (.bl (eqD a b)) S) : fEq a b S Q := ⟨h, h2, k⟩
theorem ne' (h : okD a) (h2 : okD b) (k : Q (.bl (!eqD a b)) S) : fNe a b S Q := ⟨h, h2, k⟩
def negK (d : D) (S : Sto) (Q : DK) : Prop := match d with | .int i => Q (.int (-i)) S | _ => False
theorem neg (k : ta env S (fun d S' => negK d S' Q) E) : dNeg ta env S Q E := k
theorem neg' (k : Q (.int (-i)) S) : negK (.int i) S Q := k
theorem pow2 {n : Nat} (h : sm n i) (hn : n ≤ 1000000) (k : Q (.int (i * i)) S) : fPow (.int i) (.int 2) S Q := by
  have := h.bits
  refine ⟨by decide, by omega, ?_⟩
  have e : i ^ (2 : Int).toNat = i * i := by
    show i ^ 2 = i * i
    rw [Int.pow_succ, Int.pow_succ, Int.pow_zero, Int.one_mul]
  rw [e]
  exact k
theorem is' (k : Q (.bl (isN a)) S) : fIs a .non S Q := k
theorem isNot' (k : Q (.bl (!isN a)) S) : fIsNot a .non S Q := k
theorem chain {tc : TEd} {f g : F2} (k : ta env S (fun x S1 => tb env S1 (fun y S2 => f x y S2 (fun d S3 => match d with
  | .bl true => tc env S3 (fun z S4 => g y z S4 Q) E
  | .bl false => Q (.bl false) S3
  | _ => False)) E) E) : dChain ta tb tc f g env S Q E := k
theorem dB' {g : GB} {t : TAd} (k : t env S (fun ds S1 => g ds S1 Q) E) : dB g t env S Q E := k
theorem abs' (k : Q (.int (if i < 0 then -i else i)) S) : bAbs [.int i] S Q := k
theorem lenT {ds : List D} (k : Q (.int ds.length) S) : bLen [.tup ds] S Q := k
theorem lenL {ds : List D} (k : Q (.int ds.length) S) : bLen [.lst ds] S Q := k
theorem max' (k : Q (.int (if j > i then j else i)) S) : bMax [.int i, .int j] S Q := k
theorem min' (k : Q (.int (if j < i then j else i)) S) : bMin [.int i, .int j] S Q := k
theorem intI (k : Q (.int i) S) : bInt [.int i] S Q := k
theorem intB {c : Bool} (k : Q (.int (if c then 1 else 0)) S) : bInt [.bl c] S Q := k
theorem tupL {ds : List D} (k : Q (.tup ds) S) : bTup [.lst ds] S Q := k
theorem tupT {ds : List D} (k : Q (.tup ds) S) : bTup [.tup ds] S Q := k
theorem isi {T : String} (k : ta env S (fun d S1 => isiK T d S1 Q) E) : dIsi T ta env S Q E := k
def callK (m : TFd) (np nk : Nat) (ds zs : List D) (gs : List D) (S : Sto) (Q : DK) (E : EK) : Prop := ds.length = np ∧ zs.length = nk ∧ m gs S Q E
theorem call {m : TFd} {np nk : Nat} {gD : List D → List D → List D} {tk : TAd} {t : TAd} (k : t env S (fun ds S1 => tk env S1 (fun zs S2 => callK m np nk ds zs (gD ds zs) S2 Q E) E) E) : dCall m np nk gD t tk env S Q E := k
theorem callK' {m : TFd} {np nk : Nat} {ds zs gs : List D} (h : ds.length = np) (h2 : zs.length = nk) (k : m gs S Q E) : callK m np nk ds zs gs S Q E := ⟨h, h2, k⟩
/-! items -/
theorem ixT {ds : List D} {i : Int} {d : D} (h : atI ds i = some d) (k : Q d S) : fIx (.tup ds) (.int i) S Q := by
  unfold fIx
  dsimp only
  rw [h]
  exact k
theorem ixL {ds : List D} {i : Int} {d : D} (h : atI ds i = some d) (k : Q d S) : fIx (.lst ds) (.int i) S Q := by
  unfold fIx
  dsimp only
  rw [h]
  exact k
theorem ixR {r : Addr} {ds : List D} {i : Int} {d : D} (e : S r = some ds) (h : atI ds i = some d) (k : Q d S) : fIx (.ref r) (.int i) S Q := by
  unfold fIx
  dsimp only
  rw [e]
  dsimp only
  rw [h]
  exact k
def r1K (ds : List D) (S : Sto) (Q : List D → Sto → Prop) : Prop := match ds with
  | [.int j] => -(2 ^ 62) ≤ j ∧ j < 2 ^ 62 ∧ Q (rngD 0 j.toNat) S
  | _ => False
def r2K (ds : List D) (S : Sto) (Q : List D → Sto → Prop) : Prop := match ds with
  | [.int i, .int j] => (-(2 ^ 62) ≤ i ∧ i < 2 ^ 62 ∧ -(2 ^ 62) ≤ j ∧ j < 2 ^ 62) ∧ Q (rngD i (j - i).toNat) S
  | _ => False
theorem star {te : TEd} {i aft : Nat} {gs : List Tg} (k : te env S (fun d S1 => starK i aft gs d env S1 nx) fun x S1 => ex x env S1) : sStar te i aft gs env S ⟨nx, rt, bk, ct, ex⟩ := k
def asgLK (S : Sto) (gs : List Tg) (ds : List D) (env : Ev) (nx : Ev → Sto → Prop) : Prop := match asgL S gs ds env with
  | some e => nx e S
  | none => False
theorem l_cons {g : Tg} {ts : List Tg} {d : D} {ds : List D} (k : asgK S g d env fun e S => asgLK S ts ds e nx) : asgLK S (g :: ts) (d :: ds) env nx := by
  unfold asgK at k
  unfold asgLK at *
  show match (match asgT S g d env with | some e => asgL S ts ds e | none => none) with | some e => nx e S | none => False
  cases h : asgT S g d env with
  | none => rw [h] at k; exact k.elim
  | some e => rw [h] at k; exact k
theorem l_nil (k : nx env S) : asgLK S [] [] env nx := k
theorem starG {i aft : Nat} {gs : List Tg} {d : D} {ds es : List D} (h : itemsOf S d = some ds) (hl : i + aft ≤ ds.length) (e : starD i aft ds = es) (k : asgLK S gs es env nx) : starK i aft gs d env S nx := by
  unfold starK
  rw [h]
  refine ⟨hl, ?_⟩
  rw [e]
  exact k
theorem enum' {Q : List D → Sto → Prop} (k : te env S (fun d S1 => enumK d S1 Q) E) : iEnumD te env S Q E := k
theorem rev' {Q : List D → Sto → Prop} (k : te env S (fun d S1 => revK d S1 Q) E) : iRevD te env S Q E := k
theorem zip' {t u : TEd} {Q : List D → Sto → Prop} (k : t env S (fun x S1 => u env S1 (fun y S2 => zipK x y S2 Q) E) E) : iZipD t u env S Q E := k
theorem eqS {x y : Str} {b : Bool} (h : okD (.str x)) (h2 : okD (.str y)) (e : eqD (.str x) (.str y) = b) (k : Q (.bl b) S) : fEq (.str x) (.str y) S Q := ⟨h, h2, by rw [e]; exact k⟩
theorem neS {x y : Str} {b : Bool} (h : okD (.str x)) (h2 : okD (.str y)) (e : (!eqD (.str x) (.str y)) = b) (k : Q (.bl b) S) : fNe (.str x) (.str y) S Q := ⟨h, h2, by rw [e]; exact k⟩
theorem gEqS {x y : Str} (k : fEq (.str x) (.str y) S Q) : fEq (.str x) (.str y) S Q := k
theorem gNeS {x y : Str} (k : fNe (.str x) (.str y) S Q) : fNe (.str x) (.str y) S Q := k
theorem wipe_nil {k : Ev → Prop} (h : k env) : wipeK [] env k := h
theorem wipe_cons {v : Nat} {vs : List Nat} {k : Ev → Prop} (h : wipeK vs env fun e => unsK v e k) : wipeK (v :: vs) env k := h
def lcK (g : Tg) (tt : TTd) (te : TEd) (vs : List Nat) (env : Ev) (ds : List D) (S : Sto) (Q : List D → Sto → Prop) : Prop := ds.length < sizeLine ∧ lcGo g tt te (wipeD env vs) ds S Q
theorem lc {ti : TAd} {g : Tg} {vs : List Nat} (k : ti env S (fun ds S1 => lcK g tt te vs env ds S1 fun ys S2 => Q (.lst ys) S2) E) : dLc ti g tt te vs env S Q E := k
theorem lcR {ti : TAd} {g : Tg} {vs : List Nat} (k : ti env S (fun ds S1 => lcK g tt te vs env ds S1 fun ys S2 => ∀ a, S2 a = none → Q (.ref a) (sup S2 a ys)) E) : dLcR ti g tt te vs env S Q E := k
theorem lc' {g : Tg} {vs : List Nat} {ds : List D} {Q : List D → Sto → Prop} (h : ds.length < sizeLine) (k : wipeK vs env fun e => lcGo g tt te e ds S Q) : lcK g tt te vs env ds S Q := ⟨h, k⟩
theorem lcL {g : Tg} {vs : List Nat} {ds : List D} {Q : List D → Sto → Prop} (h : Nat.ble ds.length 1000 = true) (k : wipeK vs env fun e => lcGo g tt te e ds S Q) : lcK g tt te vs env ds S Q := ⟨Nat.lt_of_le_of_lt (Nat.le_of_ble_eq_true h) (by decide), k⟩
theorem lg_nil {g : Tg} {Q : List D → Sto → Prop} (k : Q [] S) : lcGo g tt te env [] S Q := k
theorem lg_cons {g : Tg} {d : D} {ds : List D} {Q : List D → Sto → Prop} (k : asgK S g d env fun e1 S1 => tt e1 S1 (fun b S2 => ifK b (te e1 S2 (fun y S3 => lcGo g tt te env ds S3 fun ys S4 => Q (y :: ys) S4) EF) (lcGo g tt te env ds S2 Q)) EF) : lcGo g tt te env (d :: ds) S Q := by
  unfold asgK at k
  unfold lcGo
  exact k
theorem yes {P : Bool → Sto → Prop} (k : P true S) : tYesD env S P E := k
theorem for_nil {g : Tg} (k : nx env S) : forD g t [] env S ⟨nx, rt, bk, ct, ex⟩ := k
theorem for_cons {g : Tg} {d : D} {ds : List D} (k : asgK S g d env fun e1 S1 => t e1 S1 ⟨fun e s => forD g t ds e s ⟨nx, rt, bk, ct, ex⟩, rt, nx, fun e s => forD g t ds e s ⟨nx, rt, bk, ct, ex⟩, ex⟩) : forD g t (d :: ds) env S ⟨nx, rt, bk, ct, ex⟩ := by
  unfold asgK at k
  unfold forD
  exact k
theorem allB {xs : List D} {bs : List Bool} (h : blsOf xs = some bs) (k : Q (.bl (bs.all id)) S) : bAll [.lst xs] S Q := by
  unfold bAll
  dsimp only
  rw [h]
  exact k
theorem sl {t : TEd} {lo hi : TOd} (k : t env S (fun x S1 => lo env S1 (fun l S2 => hi env S2 (fun u S3 => fSl x l u S3 Q) E) E) E) : dSl t lo hi env S Q E := k
theorem oN {Q : Option Int → Sto → Prop} (k : Q none S) : oNone env S Q E := k
def osK (d : D) (S : Sto) (Q : Option Int → Sto → Prop) : Prop := match d with | .int i => Q (some i) S | _ => False
theorem oS {t : TEd} {Q : Option Int → Sto → Prop} (k : t env S (fun d S1 => osK d S1 Q) E) : oSome t env S Q E := k
theorem osK' {Q : Option Int → Sto → Prop} (k : Q (some i) S) : osK (.int i) S Q := k
theorem slT {ds es : List D} {lo hi : Option Int} (e : Bl.cutD ds lo hi = es) (k : Q (.tup es) S) : fSl (.tup ds) lo hi S Q := by subst e; exact k
theorem slL {ds es : List D} {lo hi : Option Int} (e : Bl.cutD ds lo hi = es) (k : Q (.lst es) S) : fSl (.lst ds) lo hi S Q := by subst e; exact k
def getLK (ks : List Str) (ds : List D) (y z : D) (S : Sto) (Q : DK) : Prop := match y with
  | .str x => Q ((lookD ks ds x).getD z) S
  | _ => False
theorem getL {ks : List Str} {ta : TAd} {ty tx : TEd} (k : ta env S (fun ds S1 => getLL ks ds ty tx env S1 Q E) E) : dGetL ks ta ty tx env S Q E := k
theorem getLL' {ks : List Str} {ds : List D} {ty tx : TEd} (h : ds.length = ks.length) (k : ty env S (fun y S2 => tx env S2 (fun z S3 => getLK ks ds y z S3 Q) E) E) : getLL ks ds ty tx env S Q E := ⟨h, k⟩
theorem iadd {i j : Int} (k : Q (.int (i + j)) S) : fIadd (.int i) (.int j) S Q := k
theorem r1 {t : TAd} {Q : List D → Sto → Prop} (k : t env S (fun ds S1 => r1K ds S1 Q) E) : iR1 t env S Q E := k
theorem r1' {j : Int} {n : Nat} {Q : List D → Sto → Prop} (e : j = n) (h : n < 2 ^ 60) (k : Q (rngD 0 n) S) : r1K [.int j] S Q := by
  subst e
  exact ⟨by omega, by omega, by rw [Int.toNat_natCast]; exact k⟩
theorem r2 {t : TAd} {Q : List D → Sto → Prop} (k : t env S (fun ds S1 => r2K ds S1 Q) E) : iR2 t env S Q E := k
theorem cells {α : Type} {c : Int} {xs : List α} (h : 0 ≤ c) : 1 + (if ((xs.length : Nat) : Int) < c then ((xs.length : Nat) : Int) else c) = ((1 + min c.toNat xs.length : Nat) : Int) := by
  split <;> omega
theorem iVal' {Q : List D → Sto → Prop} (k : te env S (fun d S1 => iValK d S1 Q) E) : iVal te env S Q E := k
end
theorem vr0 {l : Ev} {d : D} {S : Sto} {Q : DK} {E : EK} (k : Q d S) : vr 0 (some d :: l) S Q E := k
theorem set0 {y : Option D} {l : Ev} {d : D} {S : Sto} {nx : Ev → Sto → Prop} (k : nx (some d :: l) S) : asgK S (.nm 0) d (y :: l) nx := k
theorem uns0 {y : Option D} {l : Ev} {k : Ev → Prop} (h : k (none :: l)) : unsK 0 (y :: l) k := h
theorem aug0 {l : Ev} {d : D} {S : Sto} {te : TEd} {f : F2} {nx bk ct : Ev → Sto → Prop} {rt : DK} {ex : Xc → Ev → Sto → Prop} (k : te (some d :: l) S (fun y S1 => f d y S1 fun z S2 => nx (some z :: l) S2) fun x S1 => ex x (some d :: l) S1) : sAug 0 te f (some d :: l) S ⟨nx, rt, bk, ct, ex⟩ := k
theorem vr1 {x0 : Option D} {l : Ev} {d : D} {S : Sto} {Q : DK} {E : EK} (k : Q d S) : vr 1 (x0 :: some d :: l) S Q E := k
theorem set1 {x0 : Option D} {y : Option D} {l : Ev} {d : D} {S : Sto} {nx : Ev → Sto → Prop} (k : nx (x0 :: some d :: l) S) : asgK S (.nm 1) d (x0 :: y :: l) nx := k
theorem uns1 {x0 : Option D} {y : Option D} {l : Ev} {k : Ev → Prop} (h : k (x0 :: none :: l)) : unsK 1 (x0 :: y :: l) k := h
theorem aug1 {x0 : Option D} {l : Ev} {d : D} {S : Sto} {te : TEd} {f : F2} {nx bk ct : Ev → Sto → Prop} {rt : DK} {ex : Xc → Ev → Sto → Prop} (k : te (x0 :: some d :: l) S (fun y S1 => f d y S1 fun z S2 => nx (x0 :: some z :: l) S2) fun x S1 => ex x (x0 :: some d :: l) S1) : sAug 1 te f (x0 :: some d :: l) S ⟨nx, rt, bk, ct, ex⟩ := k
theorem vr2 {x0 x1 : Option D} {l : Ev} {d : D} {S : Sto} {Q : DK} {E : EK} (k : Q d S) : vr 2 (x0 :: x1 :: some d :: l) S Q E := k
theorem set2 {x0 x1 : Option D} {y : Option D} {l : Ev} {d : D} {S : Sto} {nx : Ev → Sto → Prop} (k : nx (x0 :: x1 :: some d :: l) S) : asgK S (.nm 2) d (x0 :: x1 :: y :: l) nx := k
theorem uns2 {x0 x1 : Option D} {y : Option D} {l : Ev} {k : Ev → Prop} (h : k (x0 :: x1 :: none :: l)) : unsK 2 (x0 :: x1 :: y :: l) k := h
theorem aug2 {x0 x1 : Option D} {l : Ev} {d : D} {S : Sto} {te : TEd} {f : F2} {nx bk ct : Ev → Sto → Prop} {rt : DK} {ex : Xc → Ev → Sto → Prop} (k : te (x0 :: x1 :: some d :: l) S (fun y S1 => f d y S1 fun z S2 => nx (x0 :: x1 :: some z :: l) S2) fun x S1 => ex x (x0 :: x1 :: some d :: l) S1) : sAug 2 te f (x0 :: x1 :: some d :: l) S ⟨nx, rt, bk, ct, ex⟩ := k
theorem vr3 {x0 x1 x2 : Option D} {l : Ev} {d : D} {S : Sto} {Q : DK} {E : EK} (k : Q d S) : vr 3 (x0 :: x1 :: x2 :: some d :: l) S Q E := k
theorem set3 {x0 x1 x2 : Option D} {y : Option D} {l : Ev} {d : D} {S : Sto} {nx : Ev → Sto → Prop} (k : nx (x0 :: x1 :: x2 :: some d :: l) S) : asgK S (.nm 3) d (x0 :: x1 :: x2 :: y :: l) nx := k
theorem uns3 {x0 x1 x2 : Option D} {y : Option D} {l : Ev} {k : Ev → Prop} (h : k (x0 :: x1 :: x2 :: none :: l)) : unsK 3 (x0 :: x1 :: x2 :: y :: l) k := h
theorem aug3 {x0 x1 x2 : Option D} {l : Ev} {d : D} {S : Sto} {te : TEd} {f : F2} {nx bk ct : Ev → Sto → Prop} {rt : DK} {ex : Xc → Ev → Sto → Prop} (k : te (x0 :: x1 :: x2 :: some d :: l) S (fun y S1 => f d y S1 fun z S2 => nx (x0 :: x1 :: x2 :: some z :: l) S2) fun x S1 => ex x (x0 :: x1 :: x2 :: some d :: l) S1) : sAug 3 te f (x0 :: x1 :: x2 :: some d :: l) S ⟨nx, rt, bk, ct, ex⟩ := k
theorem vr4 {x0 x1 x2 x3 : Option D} {l : Ev} {d : D} {S : Sto} {Q : DK} {E : EK} (k : Q d S) : vr 4 (x0 :: x1 :: x2 :: x3 :: some d :: l) S Q E := k
theorem set4 {x0 x1 x2 x3 : Option D} {y : Option D} {l : Ev} {d : D} {S : Sto} {nx : Ev → Sto → Prop} (k : nx (x0 :: x1 :: x2 :: x3 :: some d :: l) S) : asgK S (.nm 4) d (x0 :: x1 :: x2 :: x3 :: y :: l) nx := k
theorem uns4 {x0 x1 x2 x3 : Option D} {y : Option D} {l : Ev} {k : Ev → Prop} (h : k (x0 :: x1 :: x2 :: x3 :: none :: l)) : unsK 4 (x0 :: x1 :: x2 :: x3 :: y :: l) k := h
theorem aug4 {x0 x1 x2 x3 : Option D} {l : Ev} {d : D} {S : Sto} {te : TEd} {f : F2} {nx bk ct : Ev → Sto → Prop} {rt : DK} {ex : Xc → Ev → Sto → Prop} (k : te (x0 :: x1 :: x2 :: x3 :: some d :: l) S (fun y S1 => f d y S1 fun z S2 => nx (x0 :: x1 :: x2 :: x3 :: some z :: l) S2) fun x S1 => ex x (x0 :: x1 :: x2 :: x3 :: some d :: l) S1) : sAug 4 te f (x0 :: x1 :: x2 :: x3 :: some d :: l) S ⟨nx, rt, bk, ct, ex⟩ := k
theorem vr5 {x0 x1 x2 x3 x4 : Option D} {l : Ev} {d : D} {S : Sto} {Q : DK} {E : EK} (k : Q d S) : vr 5 (x0 :: x1 :: x2 :: x3 :: x4 :: some d :: l) S Q E := k
theorem set5 {x0 x1 x2 x3 x4 : Option D} {y : Option D} {l : Ev} {d : D} {S : Sto} {nx : Ev → Sto → Prop} (k : nx (x0 :: x1 :: x2 :: x3 :: x4 :: some d :: l) S) : asgK S (.nm 5) d (x0 :: x1 :: x2 :: x3 :: x4 :: y :: l) nx := k
theorem uns5 {x0 x1 x2 x3 x4 : Option D} {y : Option D} {l : Ev} {k : Ev → Prop} (h : k (x0 :: x1 :: x2 :: x3 :: x4 :: none :: l)) : unsK 5 (x0 :: x1 :: x2 :: x3 :: x4 :: y :: l) k := h
theorem aug5 {x0 x1 x2 x3 x4 : Option D} {l : Ev} {d : D} {S : Sto} {te : TEd} {f : F2} {nx bk ct : Ev → Sto → Prop} {rt : DK} {ex : Xc → Ev → Sto → Prop} (k : te (x0 :: x1 :: x2 :: x3 :: x4 :: some d :: l) S (fun y S1 => f d y S1 fun z S2 => nx (x0 :: x1 :: x2 :: x3 :: x4 :: some z :: l) S2) fun x S1 => ex x (x0 :: x1 :: x2 :: x3 :: x4 :: some d :: l) S1) : sAug 5 te f (x0 :: x1 :: x2 :: x3 :: x4 :: some d :: l) S ⟨nx, rt, bk, ct, ex⟩ := k
theorem vr6 {x0 x1 x2 x3 x4 x5 : Option D} {l : Ev} {d : D} {S : Sto} {Q : DK} {E : EK} (k : Q d S) : vr 6 (x0 :: x1 :: x2 :: x3 :: x4 :: x5 :: some d :: l) S Q E := k
theorem set6 {x0 x1 x2 x3 x4 x5 : Option D} {y : Option D} {l : Ev} {d : D} {S : Sto} {nx : Ev → Sto → Prop} (k : nx (x0 :: x1 :: x2 :: x3 :: x4 :: x5 :: some d :: l) S) : asgK S (.nm 6) d (x0 :: x1 :: x2 :: x3 :: x4 :: x5 :: y :: l) nx := k
theorem uns6 {x0 x1 x2 x3 x4 x5 : Option D} {y : Option D} {l : Ev} {k : Ev → Prop} (h : k (x0 :: x1 :: x2 :: x3 :: x4 :: x5 :: none :: l)) : unsK 6 (x0 :: x1 :: x2 :: x3 :: x4 :: x5 :: y :: l) k := h
theorem aug6 {x0 x1 x2 x3 x4 x5 : Option D} {l : Ev} {d : D} {S : Sto} {te : TEd} {f : F2} {nx bk ct : Ev → Sto → Prop} {rt : DK} {ex : Xc → Ev → Sto → Prop} (k : te (x0 :: x1 :: x2 :: x3 :: x4 :: x5 :: some d :: l) S (fun y S1 => f d y S1 fun z S2 => nx (x0 :: x1 :: x2 :: x3 :: x4 :: x5 :: some z :: l) S2) fun x S1 => ex x (x0 :: x1 :: x2 :: x3 :: x4 :: x5 :: some d :: l) S1) : sAug 6 te f (x0 :: x1 :: x2 :: x3 :: x4 :: x5 :: some d :: l) S ⟨nx, rt, bk, ct, ex⟩ := k
theorem vr7 {x0 x1 x2 x3 x4 x5 x6 : Option D} {l : Ev} {d : D} {S : Sto} {Q : DK} {E : EK} (k : Q d S) : vr 7 (x0 :: x1 :: x2 :: x3 :: x4 :: x5 :: x6 :: some d :: l) S Q E := k
theorem set7 {x0 x1 x2 x3 x4 x5 x6 : Option D} {y : Option D} {l : Ev} {d : D} {S : Sto} {nx : Ev → Sto → Prop} (k : nx (x0 :: x1 :: x2 :: x3 :: x4 :: x5 :: x6 :: some d :: l) S) : asgK S (.nm 7) d (x0 :: x1 :: x2 :: x3 :: x4 :: x5 :: x6 :: y :: l) nx := k
theorem uns7 {x0 x1 x2 x3 x4 x5 x6 : Option D} {y : Option D} {l : Ev} {k : Ev → Prop} (h : k (x0 :: x1 :: x2 :: x3 :: x4 :: x5 :: x6 :: none :: l)) : unsK 7 (x0 :: x1 :: x2 :: x3 :: x4 :: x5 :: x6 :: y :: l) k := h
theorem aug7 {x0 x1 x2 x3 x4 x5 x6 : Option D} {l : Ev} {d : D} {S : Sto} {te : TEd} {f : F2} {nx bk ct : Ev → Sto → Prop} {rt : DK} {ex : Xc → Ev → Sto → Prop} (k : te (x0 :: x1 :: x2 :: x3 :: x4 :: x5 :: x6 :: some d :: l) S (fun y S1 => f d y S1 fun z S2 => nx (x0 :: x1 :: x2 :: x3 :: x4 :: x5 :: x6 :: some z :: l) S2) fun x S1 => ex x (x0 :: x1 :: x2 :: x3 :: x4 :: x5 :: x6 :: some d :: l) S1) : sAug 7 te f (x0 :: x1 :: x2 :: x3 :: x4 :: x5 :: x6 :: some d :: l) S ⟨nx, rt, bk, ct, ex⟩ := k
theorem vr8 {x0 x1 x2 x3 x4 x5 x6 x7 : Option D} {l : Ev} {d : D} {S : Sto} {Q : DK} {E : EK} (k : Q d S) : vr 8 (x0 :: x1 :: x2 :: x3 :: x4 :: x5 :: x6 :: x7 :: some d :: l) S Q E := k
theorem set8 {x0 x1 x2 x3 x4 x5 x6 x7 : Option D} {y : Option D} {l : Ev} {d : D} {S : Sto} {nx : Ev → Sto → Prop} (k : nx (x0 :: x1 :: x2 :: x3 :: x4 :: x5 :: x6 :: x7 :: some d :: l) S) : asgK S (.nm 8) d (x0 :: x1 :: x2 :: x3 :: x4 :: x5 :: x6 :: x7 :: y :: l) nx := k
theorem uns8 {x0 x1 x2 x3 x4 x5 x6 x7 : Option D} {y : Option D} {l : Ev} {k : Ev → Prop} (h : k (x0 :: x1 :: x2 :: x3 :: x4 :: x5 :: x6 :: x7 :: none :: l)) : unsK 8 (x0 :: x1 :: x2 :: x3 :: x4 :: x5 :: x6 :: x7 :: y :: l) k := h
theorem aug8 {x0 x1 x2 x3 x4 x5 x6 x7 : Option D} {l : Ev} {d : D} {S : Sto} {te : TEd} {f : F2} {nx bk ct : Ev → Sto → Prop} {rt : DK} {ex : Xc → Ev → Sto → Prop} (k : te (x0 :: x1 :: x2 :: x3 :: x4 :: x5 :: x6 :: x7 :: some d :: l) S (fun y S1 => f d y S1 fun z S2 => nx (x0 :: x1 :: x2 :: x3 :: x4 :: x5 :: x6 :: x7 :: some z :: l) S2) fun x S1 => ex x (x0 :: x1 :: x2 :: x3 :: x4 :: x5 :: x6 :: x7 :: some d :: l) S1) : sAug 8 te f (x0 :: x1 :: x2 :: x3 :: x4 :: x5 :: x6 :: x7 :: some d :: l) S ⟨nx, rt, bk, ct, ex⟩ := k
theorem vr9 {x0 x1 x2 x3 x4 x5 x6 x7 x8 : Option D} {l : Ev} {d : D} {S : Sto} {Q : DK} {E : EK} (k : Q d S) : vr 9 (x0 :: x1 :: x2 :: x3 :: x4 :: x5 :: x6 :: x7 :: x8 :: some d :: l) S Q E := k
theorem set9 {x0 x1 x2 x3 x4 x5 x6 x7 x8 : Option D} {y : Option D} {l : Ev} {d : D} {S : Sto} {nx : Ev → Sto → Prop} (k : nx (x0 :: x1 :: x2 :: x3 :: x4 :: x5 :: x6 :: x7 :: x8 :: some d :: l) S) : asgK S (.nm 9) d (x0 :: x1 :: x2 :: x3 :: x4 :: x5 :: x6 :: x7 :: x8 :: y :: l) nx := k
theorem uns9 {x0 x1 x2 x3 x4 x5 x6 x7 x8 : Option D} {y : Option D} {l : Ev} {k : Ev → Prop} (h : k (x0 :: x1 :: x2 :: x3 :: x4 :: x5 :: x6 :: x7 :: x8 :: none :: l)) : unsK 9 (x0 :: x1 :: x2 :: x3 :: x4 :: x5 :: x6 :: x7 :: x8 :: y :: l) k := h
theorem aug9 {x0 x1 x2 x3 x4 x5 x6 x7 x8 : Option D} {l : Ev} {d : D} {S : Sto} {te : TEd} {f : F2} {nx bk ct : Ev → Sto → Prop} {rt : DK} {ex : Xc → Ev → Sto → Prop} (k : te (x0 :: x1 :: x2 :: x3 :: x4 :: x5 :: x6 :: x7 :: x8 :: some d :: l) S (fun y S1 => f d y S1 fun z S2 => nx (x0 :: x1 :: x2 :: x3 :: x4 :: x5 :: x6 :: x7 :: x8 :: some z :: l) S2) fun x S1 => ex x (x0 :: x1 :: x2 :: x3 :: x4 :: x5 :: x6 :: x7 :: x8 :: some d :: l) S1) : sAug 9 te f (x0 :: x1 :: x2 :: x3 :: x4 :: x5 :: x6 :: x7 :: x8 :: some d :: l) S ⟨nx, rt, bk, ct, ex⟩ := k
theorem vr10 {x0 x1 x2 x3 x4 x5 x6 x7 x8 x9 : Option D} {l : Ev} {d : D} {S : Sto} {Q : DK} {E : EK} (k : Q d S) : vr 10 (x0 :: x1 :: x2 :: x3 :: x4 :: x5 :: x6 :: x7 :: x8 :: x9 :: some d :: l) S Q E := k
theorem set10 {x0 x1 x2 x3 x4 x5 x6 x7 x8 x9 : Option D} {y : Option D} {l : Ev} {d : D} {S : Sto} {nx : Ev → Sto → Prop} (k : nx (x0 :: x1 :: x2 :: x3 :: x4 :: x5 :: x6 :: x7 :: x8 :: x9 :: some d :: l) S) : asgK S (.nm 10) d (x0 :: x1 :: x2 :: x3 :: x4 :: x5 :: x6 :: x7 :: x8 :: x9 :: y :: l) nx := k
theorem uns10 {x0 x1 x2 x3 x4 x5 x6 x7 x8 x9 : Option D} {y : Option D} {l : Ev} {k : Ev → Prop} (h : k (x0 :: x1 :: x2 :: x3 :: x4 :: x5 :: x6 :: x7 :: x8 :: x9 :: none :: l)) : unsK 10 (x0 :: x1 :: x2 :: x3 :: x4 :: x5 :: x6 :: x7 :: x8 :: x9 :: y :: l) k := h
theorem aug10 {x0 x1 x2 x3 x4 x5 x6 x7 x8 x9 : Option D} {l : Ev} {d : D} {S : Sto} {te : TEd} {f : F2} {nx bk ct : Ev → Sto → Prop} {rt : DK} {ex : Xc → Ev → Sto → Prop} (k : te (x0 :: x1 :: x2 :: x3 :: x4 :: x5 :: x6 :: x7 :: x8 :: x9 :: some d :: l) S (fun y S1 => f d y S1 fun z S2 => nx (x0 :: x1 :: x2 :: x3 :: x4 :: x5 :: x6 :: x7 :: x8 :: x9 :: some z :: l) S2) fun x S1 => ex x (x0 :: x1 :: x2 :: x3 :: x4 :: x5 :: x6 :: x7 :: x8 :: x9 :: some d :: l) S1) : sAug 10 te f (x0 :: x1 :: x2 :: x3 :: x4 :: x5 :: x6 :: x7 :: x8 :: x9 :: some d :: l) S ⟨nx, rt, bk, ct, ex⟩ := k
theorem vr11 {x0 x1 x2 x3 x4 x5 x6 x7 x8 x9 x10 : Option D} {l : Ev} {d : D} {S : Sto} {Q : DK} {E : EK} (k : Q d S) : vr 11 (x0 :: x1 :: x2 :: x3 :: x4 :: x5 :: x6 :: x7 :: x8 :: x9 :: x10 :: some d :: l) S Q E := k
theorem set11 {x0 x1 x2 x3 x4 x5 x6 x7 x8 x9 x10 : Option D} {y : Option D} {l : Ev} {d : D} {S : Sto} {nx : Ev → Sto → Prop} (k : nx (x0 :: x1 :: x2 :: x3 :: x4 :: x5 :: x6 :: x7 :: x8 :: x9 :: x10 :: some d :: l) S) : asgK S (.nm 11) d (x0 :: x1 :: x2 :: x3 :: x4 :: x5 :: x6 :: x7 :: x8 :: x9 :: x10 :: y :: l) nx := k
theorem uns11 {x0 x1 x2 x3 x4 x5 x6 x7 x8 x9 x10 : Option D} {y : Option D} {l : Ev} {k : Ev → Prop} (h : k (x0 :: x1 :: x2 :: x3 :: x4 :: x5 :: x6 :: x7 :: x8 :: x9 :: x10 :: none :: l)) : unsK 11 (x0 :: x1 :: x2 :: x3 :: x4 :: x5 :: x6 :: x7 :: x8 :: x9 :: x10 :: y :: l) k := h
theorem aug11 {x0 x1 x2 x3 x4 x5 x6 x7 x8 x9 x10 : Option D} {l : Ev} {d : D} {S : Sto} {te : TEd} {f : F2} {nx bk ct : Ev → Sto → Prop} {rt : DK} {ex : Xc → Ev → Sto → Prop} (k : te (x0 :: x1 :: x2 :: x3 :: x4 :: x5 :: x6 :: x7 :: x8 :: x9 :: x10 :: some d :: l) S (fun y S1 => f d y S1 fun z S2 => nx (x0 :: x1 :: x2 :: x3 :: x4 :: x5 :: x6 :: x7 :: x8 :: x9 :: x10 :: some z :: l) S2) fun x S1 => ex x (x0 :: x1 :: x2 :: x3 :: x4 :: x5 :: x6 :: x7 :: x8 :: x9 :: x10 :: some d :: l) S1) : sAug 11 te f (x0 :: x1 :: x2 :: x3 :: x4 :: x5 :: x6 :: x7 :: x8 :: x9 :: x10 :: some d :: l) S ⟨nx, rt, bk, ct, ex⟩ := k
theorem vr12 {x0 x1 x2 x3 x4 x5 x6 x7 x8 x9 x10 x11 : Option D} {l : Ev} {d : D} {S : Sto} {Q : DK} {E : EK} (k : Q d S) : vr 12 (x0 :: x1 :: x2 :: x3 :: x4 :: x5 :: x6 :: x7 :: x8 :: x9 :: x10 :: x11 :: some d :: l) S Q E := k
theorem set12 {x0 x1 x2 x3 x4 x5 x6 x7 x8 x9 x10 x11 : Option D} {y : Option D} {l : Ev} {d : D} {S : Sto} {nx : Ev → Sto → Prop} (k : nx (x0 :: x1 :: x2 :: x3 :: x4 :: x5 :: x6 :: x7 :: x8 :: x9 :: x10 :: x11 :: some d :: l) S) : asgK S (.nm 12) d (x0 :: x1 :: x2 :: x3 :: x4 :: x5 :: x6 :: x7 :: x8 :: x9 :: x10 :: x11 :: y :: l) nx := k
theorem uns12 {x0 x1 x2 x3 x4 x5 x6 x7 x8 x9 x10 x11 : Option D} {y : Option D} {l : Ev} {k : Ev → Prop} (h : k (x0 :: x1 :: x2 :: x3 :: x4 :: x5 :: x6 :: x7 :: x8 :: x9 :: x10 :: x11 :: none :: l)) : unsK 12 (x0 :: x1 :: x2 :: x3 :: x4 :: x5 :: x6 :: x7 :: x8 :: x9 :: x10 :: x11 :: y :: l) k := h
theorem aug12 {x0 x1 x2 x3 x4 x5 x6 x7 x8 x9 x10 x11 : Option D} {l : Ev} {d : D} {S : Sto} {te : TEd} {f : F2} {nx bk ct : Ev → Sto → Prop} {rt : DK} {ex : Xc → Ev → Sto → Prop} (k : te (x0 :: x1 :: x2 :: x3 :: x4 :: x5 :: x6 :: x7 :: x8 :: x9 :: x10 :: x11 :: some d :: l) S (fun y S1 => f d y S1 fun z S2 => nx (x0 :: x1 :: x2 :: x3 :: x4 :: x5 :: x6 :: x7 :: x8 :: x9 :: x10 :: x11 :: some z :: l) S2) fun x S1 => ex x (x0 :: x1 :: x2 :: x3 :: x4 :: x5 :: x6 :: x7 :: x8 :: x9 :: x10 :: x11 :: some d :: l) S1) : sAug 12 te f (x0 :: x1 :: x2 :: x3 :: x4 :: x5 :: x6 :: x7 :: x8 :: x9 :: x10 :: x11 :: some d :: l) S ⟨nx, rt, bk, ct, ex⟩ := k
theorem vr13 {x0 x1 x2 x3 x4 x5 x6 x7 x8 x9 x10 x11 x12 : Option D} {l : Ev} {d : D} {S : Sto} {Q : DK} {E : EK} (k : Q d S) : vr 13 (x0 :: x1 :: x2 :: x3 :: x4 :: x5 :: x6 :: x7 :: x8 :: x9 :: x10 :: x11 :: x12 :: some d :: l) S Q E := k
theorem set13 {x0 x1 x2 x3 x4 x5 x6 x7 x8 x9 x10 x11 x12 : Option D} {y : Option D} {l : Ev} {d : D} {S : Sto} {nx : Ev → Sto → Prop} (k : nx (x0 :: x1 :: x2 :: x3 :: x4 :: x5 :: x6 :: x7 :: x8 :: x9 :: x10 :: x11 :: x12 :: some d :: l) S) : asgK S (.nm 13) d (x0 :: x1 :: x2 :: x3 :: x4 :: x5 :: x6 :: x7 :: x8 :: x9 :: x10 :: x11 :: x12 :: y :: l) nx := k
theorem uns13 {x0 x1 x2 x3 x4 x5 x6 x7 x8 x9 x10 x11 x12 : Option D} {y : Option D} {l : Ev} {k : Ev → Prop} (h : k (x0 :: x1 :: x2 :: x3 :: x4 :: x5 :: x6 :: x7 :: x8 :: x9 :: x10 :: x11 :: x12 :: none :: l)) : unsK 13 (x0 :: x1 :: x2 :: x3 :: x4 :: x5 :: x6 :: x7 :: x8 :: x9 :: x10 :: x11 :: x12 :: y :: l) k := h
theorem aug13 {x0 x1 x2 x3 x4 x5 x6 x7 x8 x9 x10 x11 x12 : Option D} {l : Ev} {d : D} {S : Sto} {te : TEd} {f : F2} {nx bk ct : Ev → Sto → Prop} {rt : DK} {ex : Xc → Ev → Sto → Prop} (k : te (x0 :: x1 :: x2 :: x3 :: x4 :: x5 :: x6 :: x7 :: x8 :: x9 :: x10 :: x11 :: x12 :: some d :: l) S (fun y S1 => f d y S1 fun z S2 => nx (x0 :: x1 :: x2 :: x3 :: x4 :: x5 :: x6 :: x7 :: x8 :: x9 :: x10 :: x11 :: x12 :: some z :: l) S2) fun x S1 => ex x (x0 :: x1 :: x2 :: x3 :: x4 :: x5 :: x6 :: x7 :: x8 :: x9 :: x10 :: x11 :: x12 :: some d :: l) S1) : sAug 13 te f (x0 :: x1 :: x2 :: x3 :: x4 :: x5 :: x6 :: x7 :: x8 :: x9 :: x10 :: x11 :: x12 :: some d :: l) S ⟨nx, rt, bk, ct, ex⟩ := k
theorem vr14 {x0 x1 x2 x3 x4 x5 x6 x7 x8 x9 x10 x11 x12 x13 : Option D} {l : Ev} {d : D} {S : Sto} {Q : DK} {E : EK} (k : Q d S) : vr 14 (x0 :: x1 :: x2 :: x3 :: x4 :: x5 :: x6 :: x7 :: x8 :: x9 :: x10 :: x11 :: x12 :: x13 :: some d :: l) S Q E := k
theorem set14 {x0 x1 x2 x3 x4 x5 x6 x7 x8 x9 x10 x11 x12 x13 : Option D} {y : Option D} {l : Ev} {d : D} {S : Sto} {nx : Ev → Sto → Prop} (k : nx (x0 :: x1 :: x2 :: x3 :: x4 :: x5 :: x6 :: x7 :: x8 :: x9 :: x10 :: x11 :: x12 :: x13 :: some d :: l) S) : asgK S (.nm 14) d (x0 :: x1 :: x2 :: x3 :: x4 :: x5 :: x6 :: x7 :: x8 :: x9 :: x10 :: x11 :: x12 :: x13 :: y :: l) nx := k
theorem uns14 {x0 x1 x2 x3 x4 x5 x6 x7 x8 x9 x10 x11 x12 x13 : Option D} {y : Option D} {l : Ev} {k : Ev → Prop} (h : k (x0 :: x1 :: x2 :: x3 :: x4 :: x5 :: x6 :: x7 :: x8 :: x9 :: x10 :: x11 :: x12 :: x13 :: none :: l)) : unsK 14 (x0 :: x1 :: x2 :: x3 :: x4 :: x5 :: x6 :: x7 :: x8 :: x9 :: x10 :: x11 :: x12 :: x13 :: y :: l) k := h
theorem aug14 {x0 x1 x2 x3 x4 x5 x6 x7 x8 x9 x10 x11 x12 x13 : Option D} {l : Ev} {d : D} {S : Sto} {te : TEd} {f : F2} {nx bk ct : Ev → Sto → Prop} {rt : DK} {ex : Xc → Ev → Sto → Prop} (k : te (x0 :: x1 :: x2 :: x3 :: x4 :: x5 :: x6 :: x7 :: x8 :: x9 :: x10 :: x11 :: x12 :: x13 :: some d :: l) S (fun y S1 => f d y S1 fun z S2 => nx (x0 :: x1 :: x2 :: x3 :: x4 :: x5 :: x6 :: x7 :: x8 :: x9 :: x10 :: x11 :: x12 :: x13 :: some z :: l) S2) fun x S1 => ex x (x0 :: x1 :: x2 :: x3 :: x4 :: x5 :: x6 :: x7 :: x8 :: x9 :: x10 :: x11 :: x12 :: x13 :: some d :: l) S1) : sAug 14 te f (x0 :: x1 :: x2 :: x3 :: x4 :: x5 :: x6 :: x7 :: x8 :: x9 :: x10 :: x11 :: x12 :: x13 :: some d :: l) S ⟨nx, rt, bk, ct, ex⟩ := k
theorem vr15 {x0 x1 x2 x3 x4 x5 x6 x7 x8 x9 x10 x11 x12 x13 x14 : Option D} {l : Ev} {d : D} {S : Sto} {Q : DK} {E : EK} (k : Q d S) : vr 15 (x0 :: x1 :: x2 :: x3 :: x4 :: x5 :: x6 :: x7 :: x8 :: x9 :: x10 :: x11 :: x12 :: x13 :: x14 :: some d :: l) S Q E := k
theorem set15 {x0 x1 x2 x3 x4 x5 x6 x7 x8 x9 x10 x11 x12 x13 x14 : Option D} {y : Option D} {l : Ev} {d : D} {S : Sto} {nx : Ev → Sto → Prop} (k : nx (x0 :: x1 :: x2 :: x3 :: x4 :: x5 :: x6 :: x7 :: x8 :: x9 :: x10 :: x11 :: x12 :: x13 :: x14 :: some d :: l) S) : asgK S (.nm 15) d (x0 :: x1 :: x2 :: x3 :: x4 :: x5 :: x6 :: x7 :: x8 :: x9 :: x10 :: x11 :: x12 :: x13 :: x14 :: y :: l) nx := k
theorem uns15 {x0 x1 x2 x3 x4 x5 x6 x7 x8 x9 x10 x11 x12 x13 x14 : Option D} {y : Option D} {l : Ev} {k : Ev → Prop} (h : k (x0 :: x1 :: x2 :: x3 :: x4 :: x5 :: x6 :: x7 :: x8 :: x9 :: x10 :: x11 :: x12 :: x13 :: x14 :: none :: l)) : unsK 15 (x0 :: x1 :: x2 :: x3 :: x4 :: x5 :: x6 :: x7 :: x8 :: x9 :: x10 :: x11 :: x12 :: x13 :: x14 :: y :: l) k := h
theorem aug15 {x0 x1 x2 x3 x4 x5 x6 x7 x8 x9 x10 x11 x12 x13 x14 : Option D} {l : Ev} {d : D} {S : Sto} {te : TEd} {f : F2} {nx bk ct : Ev → Sto → Prop} {rt : DK} {ex : Xc → Ev → Sto → Prop} (k : te (x0 :: x1 :: x2 :: x3 :: x4 :: x5 :: x6 :: x7 :: x8 :: x9 :: x10 :: x11 :: x12 :: x13 :: x14 :: some d :: l) S (fun y S1 => f d y S1 fun z S2 => nx (x0 :: x1 :: x2 :: x3 :: x4 :: x5 :: x6 :: x7 :: x8 :: x9 :: x10 :: x11 :: x12 :: x13 :: x14 :: some z :: l) S2) fun x S1 => ex x (x0 :: x1 :: x2 :: x3 :: x4 :: x5 :: x6 :: x7 :: x8 :: x9 :: x10 :: x11 :: x12 :: x13 :: x14 :: some d :: l) S1) : sAug 15 te f (x0 :: x1 :: x2 :: x3 :: x4 :: x5 :: x6 :: x7 :: x8 :: x9 :: x10 :: x11 :: x12 :: x13 :: x14 :: some d :: l) S ⟨nx, rt, bk, ct, ex⟩ := k
theorem vr16 {x0 x1 x2 x3 x4 x5 x6 x7 x8 x9 x10 x11 x12 x13 x14 x15 : Option D} {l : Ev} {d : D} {S : Sto} {Q : DK} {E : EK} (k : Q d S) : vr 16 (x0 :: x1 :: x2 :: x3 :: x4 :: x5 :: x6 :: x7 :: x8 :: x9 :: x10 :: x11 :: x12 :: x13 :: x14 :: x15 :: some d :: l) S Q E := k
theorem set16 {x0 x1 x2 x3 x4 x5 x6 x7 x8 x9 x10 x11 x12 x13 x14 x15 : Option D} {y : Option D} {l : Ev} {d : D} {S : Sto} {nx : Ev → Sto → Prop} (k : nx (x0 :: x1 :: x2 :: x3 :: x4 :: x5 :: x6 :: x7 :: x8 :: x9 :: x10 :: x11 :: x12 :: x13 :: x14 :: x15 :: some d :: l) S) : asgK S (.nm 16) d (x0 :: x1 :: x2 :: x3 :: x4 :: x5 :: x6 :: x7 :: x8 :: x9 :: x10 :: x11 :: x12 :: x13 :: x14 :: x15 :: y :: l) nx := k
theorem uns16 {x0 x1 x2 x3 x4 x5 x6 x7 x8 x9 x10 x11 x12 x13 x14 x15 : Option D} {y : Option D} {l : Ev} {k : Ev → Prop} (h : k (x0 :: x1 :: x2 :: x3 :: x4 :: x5 :: x6 :: x7 :: x8 :: x9 :: x10 :: x11 :: x12 :: x13 :: x14 :: x15 :: none :: l)) : unsK 16 (x0 :: x1 :: x2 :: x3 :: x4 :: x5 :: x6 :: x7 :: x8 :: x9 :: x10 :: x11 :: x12 :: x13 :: x14 :: x15 :: y :: l) k := h
theorem aug16 {x0 x1 x2 x3 x4 x5 x6 x7 x8 x9 x10 x11 x12 x13 x14 x15 : Option D} {l : Ev} {d : D} {S : Sto} {te : TEd} {f : F2} {nx bk ct : Ev → Sto → Prop} {rt : DK} {ex : Xc → Ev → Sto → Prop} (k : te (x0 :: x1 :: x2 :: x3 :: x4 :: x5 :: x6 :: x7 :: x8 :: x9 :: x10 :: x11 :: x12 :: x13 :: x14 :: x15 :: some d :: l) S (fun y S1 => f d y S1 fun z S2 => nx (x0 :: x1 :: x2 :: x3 :: x4 :: x5 :: x6 :: x7 :: x8 :: x9 :: x10 :: x11 :: x12 :: x13 :: x14 :: x15 :: some z :: l) S2) fun x S1 => ex x (x0 :: x1 :: x2 :: x3 :: x4 :: x5 :: x6 :: x7 :: x8 :: x9 :: x10 :: x11 :: x12 :: x13 :: x14 :: x15 :: some d :: l) S1) : sAug 16 te f (x0 :: x1 :: x2 :: x3 :: x4 :: x5 :: x6 :: x7 :: x8 :: x9 :: x10 :: x11 :: x12 :: x13 :: x14 :: x15 :: some d :: l) S ⟨nx, rt, bk, ct, ex⟩ := k
theorem vr17 {x0 x1 x2 x3 x4 x5 x6 x7 x8 x9 x10 x11 x12 x13 x14 x15 x16 : Option D} {l : Ev} {d : D} {S : Sto} {Q : DK} {E : EK} (k : Q d S) : vr 17 (x0 :: x1 :: x2 :: x3 :: x4 :: x5 :: x6 :: x7 :: x8 :: x9 :: x10 :: x11 :: x12 :: x13 :: x14 :: x15 :: x16 :: some d :: l) S Q E := k
theorem set17 {x0 x1 x2 x3 x4 x5 x6 x7 x8 x9 x10 x11 x12 x13 x14 x15 x16 : Option D} {y : Option D} {l : Ev} {d : D} {S : Sto} {nx : Ev → Sto → Prop} (k : nx (x0 :: x1 :: x2 :: x3 :: x4 :: x5 :: x6 :: x7 :: x8 :: x9 :: x10 :: x11 :: x12 :: x13 :: x14 :: x15 :: x16 :: some d :: l) S) : asgK S (.nm 17) d (x0 :: x1 :: x2 :: x3 :: x4 :: x5 :: x6 :: x7 :: x8 :: x9 :: x10 :: x11 :: x12 :: x13 :: x14 :: x15 :: x16 :: y :: l) nx := k
theorem uns17 {x0 x1 x2 x3 x4 x5 x6 x7 x8 x9 x10 x11 x12 x13 x14 x15 x16 : Option D} {y : Option D} {l : Ev} {k : Ev → Prop} (h : k (x0 :: x1 :: x2 :: x3 :: x4 :: x5 :: x6 :: x7 :: x8 :: x9 :: x10 :: x11 :: x12 :: x13 :: x14 :: x15 :: x16 :: none :: l)) : unsK 17 (x0 :: x1 :: x2 :: x3 :: x4 :: x5 :: x6 :: x7 :: x8 :: x9 :: x10 :: x11 :: x12 :: x13 :: x14 :: x15 :: x16 :: y :: l) k := h
theorem aug17 {x0 x1 x2 x3 x4 x5 x6 x7 x8 x9 x10 x11 x12 x13 x14 x15 x16 : Option D} {l : Ev} {d : D} {S : Sto} {te : TEd} {f : F2} {nx bk ct : Ev → Sto → Prop} {rt : DK} {ex : Xc → Ev → Sto → Prop} (k : te (x0 :: x1 :: x2 :: x3 :: x4 :: x5 :: x6 :: x7 :: x8 :: x9 :: x10 :: x11 :: x12 :: x13 :: x14 :: x15 :: x16 :: some d :: l) S (fun y S1 => f d y S1 fun z S2 => nx (x0 :: x1 :: x2 :: x3 :: x4 :: x5 :: x6 :: x7 :: x8 :: x9 :: x10 :: x11 :: x12 :: x13 :: x14 :: x15 :: x16 :: some z :: l) S2) fun x S1 => ex x (x0 :: x1 :: x2 :: x3 :: x4 :: x5 :: x6 :: x7 :: x8 :: x9 :: x10 :: x11 :: x12 :: x13 :: x14 :: x15 :: x16 :: some d :: l) S1) : sAug 17 te f (x0 :: x1 :: x2 :: x3 :: x4 :: x5 :: x6 :: x7 :: x8 :: x9 :: x10 :: x11 :: x12 :: x13 :: x14 :: x15 :: x16 :: some d :: l) S ⟨nx, rt, bk, ct, ex⟩ := k
theorem vr18 {x0 x1 x2 x3 x4 x5 x6 x7 x8 x9 x10 x11 x12 x13 x14 x15 x16 x17 : Option D} {l : Ev} {d : D} {S : Sto} {Q : DK} {E : EK} (k : Q d S) : vr 18 (x0 :: x1 :: x2 :: x3 :: x4 :: x5 :: x6 :: x7 :: x8 :: x9 :: x10 :: x11 :: x12 :: x13 :: x14 :: x15 :: x16 :: x17 :: some d :: l) S Q E := k
theorem set18 {x0 x1 x2 x3 x4 x5 x6 x7 x8 x9 x10 x11 x12 x13 x14 x15 x16 x17 : Option D} {y : Option D} {l : Ev} {d : D} {S : Sto} {nx : Ev → Sto → Prop} (k : nx (x0 :: x1 :: x2 :: x3 :: x4 :: x5 :: x6 :: x7 :: x8 :: x9 :: x10 :: x11 :: x12 :: x13 :: x14 :: x15 :: x16 :: x17 :: some d :: l) S) : asgK S (.nm 18) d (x0 :: x1 :: x2 :: x3 :: x4 :: x5 :: x6 :: x7 :: x8 :: x9 :: x10 :: x11 :: x12 :: x13 :: x14 :: x15 :: x16 :: x17 :: y :: l) nx := k
theorem uns18 {x0 x1 x2 x3 x4 x5 x6 x7 x8 x9 x10 x11 x12 x13 x14 x15 x16 x17 : Option D} {y : Option D} {l : Ev} {k : Ev → Prop} (h : k (x0 :: x1 :: x2 :: x3 :: x4 :: x5 :: x6 :: x7 :: x8 :: x9 :: x10 :: x11 :: x12 :: x13 :: x14 :: x15 :: x16 :: x17 :: none :: l)) : unsK 18 (x0 :: x1 :: x2 :: x3 :: x4 :: x5 :: x6 :: x7 :: x8 :: x9 :: x10 :: x11 :: x12 :: x13 :: x14 :: x15 :: x16 :: x17 :: y :: l) k := h
theorem aug18 {x0 x1 x2 x3 x4 x5 x6 x7 x8 x9 x10 x11 x12 x13 x14 x15 x16 x17 : Option D} {l : Ev} {d : D} {S : Sto} {te : TEd} {f : F2} {nx bk ct : Ev → Sto → Prop} {rt : DK} {ex : Xc → Ev → Sto → Prop} (k : te (x0 :: x1 :: x2 :: x3 :: x4 :: x5 :: x6 :: x7 :: x8 :: x9 :: x10 :: x11 :: x12 :: x13 :: x14 :: x15 :: x16 :: x17 :: some d :: l) S (fun y S1 => f d y S1 fun z S2 => nx (x0 :: x1 :: x2 :: x3 :: x4 :: x5 :: x6 :: x7 :: x8 :: x9 :: x10 :: x11 :: x12 :: x13 :: x14 :: x15 :: x16 :: x17 :: some z :: l) S2) fun x S1 => ex x (x0 :: x1 :: x2 :: x3 :: x4 :: x5 :: x6 :: x7 :: x8 :: x9 :: x10 :: x11 :: x12 :: x13 :: x14 :: x15 :: x16 :: x17 :: some d :: l) S1) : sAug 18 te f (x0 :: x1 :: x2 :: x3 :: x4 :: x5 :: x6 :: x7 :: x8 :: x9 :: x10 :: x11 :: x12 :: x13 :: x14 :: x15 :: x16 :: x17 :: some d :: l) S ⟨nx, rt, bk, ct, ex⟩ := k
theorem vr19 {x0 x1 x2 x3 x4 x5 x6 x7 x8 x9 x10 x11 x12 x13 x14 x15 x16 x17 x18 : Option D} {l : Ev} {d : D} {S : Sto} {Q : DK} {E : EK} (k : Q d S) : vr 19 (x0 :: x1 :: x2 :: x3 :: x4 :: x5 :: x6 :: x7 :: x8 :: x9 :: x10 :: x11 :: x12 :: x13 :: x14 :: x15 :: x16 :: x17 :: x18 :: some d :: l) S Q E := k
theorem set19 {x0 x1 x2 x3 x4 x5 x6 x7 x8 x9 x10 x11 x12 x13 x14 x15 x16 x17 x18 : Option D} {y : Option D} {l : Ev} {d : D} {S : Sto} {nx : Ev → Sto → Prop} (k : nx (x0 :: x1 :: x2 :: x3 :: x4 :: x5 :: x6 :: x7 :: x8 :: x9 :: x10 :: x11 :: x12 :: x13 :: x14 :: x15 :: x16 :: x17 :: x18 :: some d :: l) S) : asgK S (.nm 19) d (x0 :: x1 :: x2 :: x3 :: x4 :: x5 :: x6 :: x7 :: x8 :: x9 :: x10 :: x11 :: x12 :: x13 :: x14 :: x15 :: x16 :: x17 :: x18 :: y :: l) nx := k
theorem uns19 {x0 x1 x2 x3 x4 x5 x6 x7 x8 x9 x10 x11 x12 x13 x14 x15 x16 x17 x18 : Option D} {y : Option D} {l : Ev} {k : Ev → Prop} (h : k (x0 :: x1 :: x2 :: x3 :: x4 :: x5 :: x6 :: x7 :: x8 :: x9 :: x10 :: x11 :: x12 :: x13 :: x14 :: x15 :: x16 :: x17 :: x18 :: none :: l)) : unsK 19 (x0 :: x1 :: x2 :: x3 :: x4 :: x5 :: x6 :: x7 :: x8 :: x9 :: x10 :: x11 :: x12 :: x13 :: x14 :: x15 :: x16 :: x17 :: x18 :: y :: l) k := h
theorem aug19 {x0 x1 x2 x3 x4 x5 x6 x7 x8 x9 x10 x11 x12 x13 x14 x15 x16 x17 x18 : Option D} {l : Ev} {d : D} {S : Sto} {te : TEd} {f : F2} {nx bk ct : Ev → Sto → Prop} {rt : DK} {ex : Xc → Ev → Sto → Prop} (k : te (x0 :: x1 :: x2 :: x3 :: x4 :: x5 :: x6 :: x7 :: x8 :: x9 :: x10 :: x11 :: x12 :: x13 :: x14 :: x15 :: x16 :: x17 :: x18 :: some d :: l) S (fun y S1 => f d y S1 fun z S2 => nx (x0 :: x1 :: x2 :: x3 :: x4 :: x5 :: x6 :: x7 :: x8 :: x9 :: x10 :: x11 :: x12 :: x13 :: x14 :: x15 :: x16 :: x17 :: x18 :: some z :: l) S2) fun x S1 => ex x (x0 :: x1 :: x2 :: x3 :: x4 :: x5 :: x6 :: x7 :: x8 :: x9 :: x10 :: x11 :: x12 :: x13 :: x14 :: x15 :: x16 :: x17 :: x18 :: some d :: l) S1) : sAug 19 te f (x0 :: x1 :: x2 :: x3 :: x4 :: x5 :: x6 :: x7 :: x8 :: x9 :: x10 :: x11 :: x12 :: x13 :: x14 :: x15 :: x16 :: x17 :: x18 :: some d :: l) S ⟨nx, rt, bk, ct, ex⟩ := k
theorem vr20 {x0 x1 x2 x3 x4 x5 x6 x7 x8 x9 x10 x11 x12 x13 x14 x15 x16 x17 x18 x19 : Option D} {l : Ev} {d : D} {S : Sto} {Q : DK} {E : EK} (k : Q d S) : vr 20 (x0 :: x1 :: x2 :: x3 :: x4 :: x5 :: x6 :: x7 :: x8 :: x9 :: x10 :: x11 :: x12 :: x13 :: x14 :: x15 :: x16 :: x17 :: x18 :: x19 :: some d :: l) S Q E := k
theorem set20 {x0 x1 x2 x3 x4 x5 x6 x7 x8 x9 x10 x11 x12 x13 x14 x15 x16 x17 x18 x19 : Option D} {y : Option D} {l : Ev} {d : D} {S : Sto} {nx : Ev → Sto → Prop} (k : nx (x0 :: x1 :: x2 :: x3 :: x4 :: x5 :: x6 :: x7 :: x8 :: x9 :: x10 :: x11 :: x12 :: x13 :: x14 :: x15 :: x16 :: x17 :: x18 :: x19 :: some d :: l) S) : asgK S (.nm 20) d (x0 :: x1 :: x2 :: x3 :: x4 :: x5 :: x6 :: x7 :: x8 :: x9 :: x10 :: x11 :: x12 :: x13 :: x14 :: x15 :: x16 :: x17 :: x18 :: x19 :: y :: l) nx := k
theorem uns20 {x0 x1 x2 x3 x4 x5 x6 x7 x8 x9 x10 x11 x12 x13 x14 x15 x16 x17 x18 x19 : Option D} {y : Option D} {l : Ev} {k : Ev → Prop} (h : k (x0 :: x1 :: x2 :: x3 :: x4 :: x5 :: x6 :: x7 :: x8 :: x9 :: x10 :: x11 :: x12 :: x13 :: x14 :: x15 :: x16 :: x17 :: x18 :: x19 :: none :: l)) : unsK 20 (x0 :: x1 :: x2 :: x3 :: x4 :: x5 :: x6 :: x7 :: x8 :: x9 :: x10 :: x11 :: x12 :: x13 :: x14 :: x15 :: x16 :: x17 :: x18 :: x19 :: y :: l) k := h
theorem aug20 {x0 x1 x2 x3 x4 x5 x6 x7 x8 x9 x10 x11 x12 x13 x14 x15 x16 x17 x18 x19 : Option D} {l : Ev} {d : D} {S : Sto} {te : TEd} {f : F2} {nx bk ct : Ev → Sto → Prop} {rt : DK} {ex : Xc → Ev → Sto → Prop} (k : te (x0 :: x1 :: x2 :: x3 :: x4 :: x5 :: x6 :: x7 :: x8 :: x9 :: x10 :: x11 :: x12 :: x13 :: x14 :: x15 :: x16 :: x17 :: x18 :: x19 :: some d :: l) S (fun y S1 => f d y S1 fun z S2 => nx (x0 :: x1 :: x2 :: x3 :: x4 :: x5 :: x6 :: x7 :: x8 :: x9 :: x10 :: x11 :: x12 :: x13 :: x14 :: x15 :: x16 :: x17 :: x18 :: x19 :: some z :: l) S2) fun x S1 => ex x (x0 :: x1 :: x2 :: x3 :: x4 :: x5 :: x6 :: x7 :: x8 :: x9 :: x10 :: x11 :: x12 :: x13 :: x14 :: x15 :: x16 :: x17 :: x18 :: x19 :: some d :: l) S1) : sAug 20 te f (x0 :: x1 :: x2 :: x3 :: x4 :: x5 :: x6 :: x7 :: x8 :: x9 :: x10 :: x11 :: x12 :: x13 :: x14 :: x15 :: x16 :: x17 :: x18 :: x19 :: some d :: l) S ⟨nx, rt, bk, ct, ex⟩ := k
theorem vr21 {x0 x1 x2 x3 x4 x5 x6 x7 x8 x9 x10 x11 x12 x13 x14 x15 x16 x17 x18 x19 x20 : Option D} {l : Ev} {d : D} {S : Sto} {Q : DK} {E : EK} (k : Q d S) : vr 21 (x0 :: x1 :: x2 :: x3 :: x4 :: x5 :: x6 :: x7 :: x8 :: x9 :: x10 :: x11 :: x12 :: x13 :: x14 :: x15 :: x16 :: x17 :: x18 :: x19 :: x20 :: some d :: l) S Q E := k
theorem set21 {x0 x1 x2 x3 x4 x5 x6 x7 x8 x9 x10 x11 x12 x13 x14 x15 x16 x17 x18 x19 x20 : Option D} {y : Option D} {l : Ev} {d : D} {S : Sto} {nx : Ev → Sto → Prop} (k : nx (x0 :: x1 :: x2 :: x3 :: x4 :: x5 :: x6 :: x7 :: x8 :: x9 :: x10 :: x11 :: x12 :: x13 :: x14 :: x15 :: x16 :: x17 :: x18 :: x19 :: x20 :: some d :: l) S) : asgK S (.nm 21) d (x0 :: x1 :: x2 :: x3 :: x4 :: x5 :: x6 :: x7 :: x8 :: x9 :: x10 :: x11 :: x12 :: x13 :: x14 :: x15 :: x16 :: x17 :: x18 :: x19 :: x20 :: y :: l) nx := k
theorem uns21 {x0 x1 x2 x3 x4 x5 x6 x7 x8 x9 x10 x11 x12 x13 x14 x15 x16 x17 x18 x19 x20 : Option D} {y : Option D} {l : Ev} {k : Ev → Prop} (h : k (x0 :: x1 :: x2 :: x3 :: x4 :: x5 :: x6 :: x7 :: x8 :: x9 :: x10 :: x11 :: x12 :: x13 :: x14 :: x15 :: x16 :: x17 :: x18 :: x19 :: x20 :: none :: l)) : unsK 21 (x0 :: x1 :: x2 :: x3 :: x4 :: x5 :: x6 :: x7 :: x8 :: x9 :: x10 :: x11 :: x12 :: x13 :: x14 :: x15 :: x16 :: x17 :: x18 :: x19 :: x20 :: y :: l) k := h
theorem aug21 {x0 x1 x2 x3 x4 x5 x6 x7 x8 x9 x10 x11 x12 x13 x14 x15 x16 x17 x18 x19 x20 : Option D} {l : Ev} {d : D} {S : Sto} {te : TEd} {f : F2} {nx bk ct : Ev → Sto → Prop} {rt : DK} {ex : Xc → Ev → Sto → Prop} (k : te (x0 :: x1 :: x2 :: x3 :: x4 :: x5 :: x6 :: x7 :: x8 :: x9 :: x10 :: x11 :: x12 :: x13 :: x14 :: x15 :: x16 :: x17 :: x18 :: x19 :: x20 :: some d :: l) S (fun y S1 => f d y S1 fun z S2 => nx (x0 :: x1 :: x2 :: x3 :: x4 :: x5 :: x6 :: x7 :: x8 :: x9 :: x10 :: x11 :: x12 :: x13 :: x14 :: x15 :: x16 :: x17 :: x18 :: x19 :: x20 :: some z :: l) S2) fun x S1 => ex x (x0 :: x1 :: x2 :: x3 :: x4 :: x5 :: x6 :: x7 :: x8 :: x9 :: x10 :: x11 :: x12 :: x13 :: x14 :: x15 :: x16 :: x17 :: x18 :: x19 :: x20 :: some d :: l) S1) : sAug 21 te f (x0 :: x1 :: x2 :: x3 :: x4 :: x5 :: x6 :: x7 :: x8 :: x9 :: x10 :: x11 :: x12 :: x13 :: x14 :: x15 :: x16 :: x17 :: x18 :: x19 :: x20 :: some d :: l) S ⟨nx, rt, bk, ct, ex⟩ := k
theorem vr22 {x0 x1 x2 x3 x4 x5 x6 x7 x8 x9 x10 x11 x12 x13 x14 x15 x16 x17 x18 x19 x20 x21 : Option D} {l : Ev} {d : D} {S : Sto} {Q : DK} {E : EK} (k : Q d S) : vr 22 (x0 :: x1 :: x2 :: x3 :: x4 :: x5 :: x6 :: x7 :: x8 :: x9 :: x10 :: x11 :: x12 :: x13 :: x14 :: x15 :: x16 :: x17 :: x18 :: x19 :: x20 :: x21 :: some d :: l) S Q E := k
theorem set22 {x0 x1 x2 x3 x4 x5 x6 x7 x8 x9 x10 x11 x12 x13 x14 x15 x16 x17 x18 x19 x20 x21 : Option D} {y : Option D} {l : Ev} {d : D} {S : Sto} {nx : Ev → Sto → Prop} (k : nx (x0 :: x1 :: x2 :: x3 :: x4 :: x5 :: x6 :: x7 :: x8 :: x9 :: x10 :: x11 :: x12 :: x13 :: x14 :: x15 :: x16 :: x17 :: x18 :: x19 :: x20 :: x21 :: some d :: l) S) : asgK S (.nm 22) d (x0 :: x1 :: x2 :: x3 :: x4 :: x5 :: x6 :: x7 :: x8 :: x9 :: x10 :: x11 :: x12 :: x13 :: x14 :: x15 :: x16 :: x17 :: x18 :: x19 :: x20 :: x21 :: y :: l) nx := k
theorem uns22 {x0 x1 x2 x3 x4 x5 x6 x7 x8 x9 x10 x11 x12 x13 x14 x15 x16 x17 x18 x19 x20 x21 : Option D} {y : Option D} {l : Ev} {k : Ev → Prop} (h : k (x0 :: x1 :: x2 :: x3 :: x4 :: x5 :: x6 :: x7 :: x8 :: x9 :: x10 :: x11 :: x12 :: x13 :: x14 :: x15 :: x16 :: x17 :: x18 :: x19 :: x20 :: x21 :: none :: l)) : unsK 22 (x0 :: x1 :: x2 :: x3 :: x4 :: x5 :: x6 :: x7 :: x8 :: x9 :: x10 :: x11 :: x12 :: x13 :: x14 :: x15 :: x16 :: x17 :: x18 :: x19 :: x20 :: x21 :: y :: l) k := h
theorem aug22 {x0 x1 x2 x3 x4 x5 x6 x7 x8 x9 x10 x11 x12 x13 x14 x15 x16 x17 x18 x19 x20 x21 : Option D} {l : Ev} {d : D} {S : Sto} {te : TEd} {f : F2} {nx bk ct : Ev → Sto → Prop} {rt : DK} {ex : Xc → Ev → Sto → Prop} (k : te (x0 :: x1 :: x2 :: x3 :: x4 :: x5 :: x6 :: x7 :: x8 :: x9 :: x10 :: x11 :: x12 :: x13 :: x14 :: x15 :: x16 :: x17 :: x18 :: x19 :: x20 :: x21 :: some d :: l) S (fun y S1 => f d y S1 fun z S2 => nx (x0 :: x1 :: x2 :: x3 :: x4 :: x5 :: x6 :: x7 :: x8 :: x9 :: x10 :: x11 :: x12 :: x13 :: x14 :: x15 :: x16 :: x17 :: x18 :: x19 :: x20 :: x21 :: some z :: l) S2) fun x S1 => ex x (x0 :: x1 :: x2 :: x3 :: x4 :: x5 :: x6 :: x7 :: x8 :: x9 :: x10 :: x11 :: x12 :: x13 :: x14 :: x15 :: x16 :: x17 :: x18 :: x19 :: x20 :: x21 :: some d :: l) S1) : sAug 22 te f (x0 :: x1 :: x2 :: x3 :: x4 :: x5 :: x6 :: x7 :: x8 :: x9 :: x10 :: x11 :: x12 :: x13 :: x14 :: x15 :: x16 :: x17 :: x18 :: x19 :: x20 :: x21 :: some d :: l) S ⟨nx, rt, bk, ct, ex⟩ := k
theorem vr23 {x0 x1 x2 x3 x4 x5 x6 x7 x8 x9 x10 x11 x12 x13 x14 x15 x16 x17 x18 x19 x20 x21 x22 : Option D} {l : Ev} {d : D} {S : Sto} {Q : DK} {E : EK} (k : Q d S) : vr 23 (x0 :: x1 :: x2 :: x3 :: x4 :: x5 :: x6 :: x7 :: x8 :: x9 :: x10 :: x11 :: x12 :: x13 :: x14 :: x15 :: x16 :: x17 :: x18 :: x19 :: x20 :: x21 :: x22 :: some d :: l) S Q E := k
theorem set23 {x0 x1 x2 x3 x4 x5 x6 x7 x8 x9 x10 x11 x12 x13 x14 x15 x16 x17 x18 x19 x20 x21 x22 : Option D} {y : Option D} {l : Ev} {d : D} {S : Sto} {nx : Ev → Sto → Prop} (k : nx (x0 :: x1 :: x2 :: x3 :: x4 :: x5 :: x6 :: x7 :: x8 :: x9 :: x10 :: x11 :: x12 :: x13 :: x14 :: x15 :: x16 :: x17 :: x18 :: x19 :: x20 :: x21 :: x22 :: some d :: l) S) : asgK S (.nm 23) d (x0 :: x1 :: x2 :: x3 :: x4 :: x5 :: x6 :: x7 :: x8 :: x9 :: x10 :: x11 :: x12 :: x13 :: x14 :: x15 :: x16 :: x17 :: x18 :: x19 :: x20 :: x21 :: x22 :: y :: l) nx := k
theorem uns23 {x0 x1 x2 x3 x4 x5 x6 x7 x8 x9 x10 x11 x12 x13 x14 x15 x16 x17 x18 x19 x20 x21 x22 : Option D} {y : Option D} {l : Ev} {k : Ev → Prop} (h : k (x0 :: x1 :: x2 :: x3 :: x4 :: x5 :: x6 :: x7 :: x8 :: x9 :: x10 :: x11 :: x12 :: x13 :: x14 :: x15 :: x16 :: x17 :: x18 :: x19 :: x20 :: x21 :: x22 :: none :: l)) : unsK 23 (x0 :: x1 :: x2 :: x3 :: x4 :: x5 :: x6 :: x7 :: x8 :: x9 :: x10 :: x11 :: x12 :: x13 :: x14 :: x15 :: x16 :: x17 :: x18 :: x19 :: x20 :: x21 :: x22 :: y :: l) k := h
theorem aug23 {x0 x1 x2 x3 x4 x5 x6 x7 x8 x9 x10 x11 x12 x13 x14 x15 x16 x17 x18 x19 x20 x21 x22 : Option D} {l : Ev} {d : D} {S : Sto} {te : TEd} {f : F2} {nx bk ct : Ev → Sto → Prop} {rt : DK} {ex : Xc → Ev → Sto → Prop} (k : te (x0 :: x1 :: x2 :: x3 :: x4 :: x5 :: x6 :: x7 :: x8 :: x9 :: x10 :: x11 :: x12 :: x13 :: x14 :: x15 :: x16 :: x17 :: x18 :: x19 :: x20 :: x21 :: x22 :: some d :: l) S (fun y S1 => f d y S1 fun z S2 => nx (x0 :: x1 :: x2 :: x3 :: x4 :: x5 :: x6 :: x7 :: x8 :: x9 :: x10 :: x11 :: x12 :: x13 :: x14 :: x15 :: x16 :: x17 :: x18 :: x19 :: x20 :: x21 :: x22 :: some z :: l) S2) fun x S1 => ex x (x0 :: x1 :: x2 :: x3 :: x4 :: x5 :: x6 :: x7 :: x8 :: x9 :: x10 :: x11 :: x12 :: x13 :: x14 :: x15 :: x16 :: x17 :: x18 :: x19 :: x20 :: x21 :: x22 :: some d :: l) S1) : sAug 23 te f (x0 :: x1 :: x2 :: x3 :: x4 :: x5 :: x6 :: x7 :: x8 :: x9 :: x10 :: x11 :: x12 :: x13 :: x14 :: x15 :: x16 :: x17 :: x18 :: x19 :: x20 :: x21 :: x22 :: some d :: l) S ⟨nx, rt, bk, ct, ex⟩ := k
theorem ixT0 {ds : List D} {d : D} {S : Sto} {Q : DK} (k : Q d S) : fIx (.tup (d :: ds)) (.int 0) S Q := ixT (atI_nat (j := 0) rfl) k
theorem ixL0 {ds : List D} {d : D} {S : Sto} {Q : DK} (k : Q d S) : fIx (.lst (d :: ds)) (.int 0) S Q := ixL (atI_nat (j := 0) rfl) k
theorem ixT1 {x0 : D} {ds : List D} {d : D} {S : Sto} {Q : DK} (k : Q d S) : fIx (.tup (x0 :: d :: ds)) (.int 1) S Q := ixT (atI_nat (j := 1) rfl) k
theorem ixL1 {x0 : D} {ds : List D} {d : D} {S : Sto} {Q : DK} (k : Q d S) : fIx (.lst (x0 :: d :: ds)) (.int 1) S Q := ixL (atI_nat (j := 1) rfl) k
theorem ixT2 {x0 x1 : D} {ds : List D} {d : D} {S : Sto} {Q : DK} (k : Q d S) : fIx (.tup (x0 :: x1 :: d :: ds)) (.int 2) S Q := ixT (atI_nat (j := 2) rfl) k
theorem ixL2 {x0 x1 : D} {ds : List D} {d : D} {S : Sto} {Q : DK} (k : Q d S) : fIx (.lst (x0 :: x1 :: d :: ds)) (.int 2) S Q := ixL (atI_nat (j := 2) rfl) k
theorem ixT3 {x0 x1 x2 : D} {ds : List D} {d : D} {S : Sto} {Q : DK} (k : Q d S) : fIx (.tup (x0 :: x1 :: x2 :: d :: ds)) (.int 3) S Q := ixT (atI_nat (j := 3) rfl) k
theorem ixL3 {x0 x1 x2 : D} {ds : List D} {d : D} {S : Sto} {Q : DK} (k : Q d S) : fIx (.lst (x0 :: x1 :: x2 :: d :: ds)) (.int 3) S Q := ixL (atI_nat (j := 3) rfl) k
theorem ixT4 {x0 x1 x2 x3 : D} {ds : List D} {d : D} {S : Sto} {Q : DK} (k : Q d S) : fIx (.tup (x0 :: x1 :: x2 :: x3 :: d :: ds)) (.int 4) S Q := ixT (atI_nat (j := 4) rfl) k
theorem ixL4 {x0 x1 x2 x3 : D} {ds : List D} {d : D} {S : Sto} {Q : DK} (k : Q d S) : fIx (.lst (x0 :: x1 :: x2 :: x3 :: d :: ds)) (.int 4) S Q := ixL (atI_nat (j := 4) rfl) k
theorem ixT5 {x0 x1 x2 x3 x4 : D} {ds : List D} {d : D} {S : Sto} {Q : DK} (k : Q d S) : fIx (.tup (x0 :: x1 :: x2 :: x3 :: x4 :: d :: ds)) (.int 5) S Q := ixT (atI_nat (j := 5) rfl) k
theorem ixL5 {x0 x1 x2 x3 x4 : D} {ds : List D} {d : D} {S : Sto} {Q : DK} (k : Q d S) : fIx (.lst (x0 :: x1 :: x2 :: x3 :: x4 :: d :: ds)) (.int 5) S Q := ixL (atI_nat (j := 5) rfl) k
theorem ixT6 {x0 x1 x2 x3 x4 x5 : D} {ds : List D} {d : D} {S : Sto} {Q : DK} (k : Q d S) : fIx (.tup (x0 :: x1 :: x2 :: x3 :: x4 :: x5 :: d :: ds)) (.int 6) S Q := ixT (atI_nat (j := 6) rfl) k
theorem ixL6 {x0 x1 x2 x3 x4 x5 : D} {ds : List D} {d : D} {S : Sto} {Q : DK} (k : Q d S) : fIx (.lst (x0 :: x1 :: x2 :: x3 :: x4 :: x5 :: d :: ds)) (.int 6) S Q := ixL (atI_nat (j := 6) rfl) k
theorem ixT7 {x0 x1 x2 x3 x4 x5 x6 : D} {ds : List D} {d : D} {S : Sto} {Q : DK} (k : Q d S) : fIx (.tup (x0 :: x1 :: x2 :: x3 :: x4 :: x5 :: x6 :: d :: ds)) (.int 7) S Q := ixT (atI_nat (j := 7) rfl) k
theorem ixL7 {x0 x1 x2 x3 x4 x5 x6 : D} {ds : List D} {d : D} {S : Sto} {Q : DK} (k : Q d S) : fIx (.lst (x0 :: x1 :: x2 :: x3 :: x4 :: x5 :: x6 :: d :: ds)) (.int 7) S Q := ixL (atI_nat (j := 7) rfl) k
theorem startup0 {r : List D} {gs : List Tg} {env : Ev} {S : Sto} {nx : Ev → Sto → Prop} (k : asgLK S gs [.lst r] env nx) : starK 0 0 gs (.tup (r)) env S nx := starG rfl (by simp) (by simp [starD]) k
theorem starlst0 {r : List D} {gs : List Tg} {env : Ev} {S : Sto} {nx : Ev → Sto → Prop} (k : asgLK S gs [.lst r] env nx) : starK 0 0 gs (.lst (r)) env S nx := starG rfl (by simp) (by simp [starD]) k
theorem startup1 {x0 : D} {r : List D} {gs : List Tg} {env : Ev} {S : Sto} {nx : Ev → Sto → Prop} (k : asgLK S gs [x0, .lst r] env nx) : starK 1 0 gs (.tup (x0 :: r)) env S nx := starG rfl (by simp) (by simp [starD]) k
theorem starlst1 {x0 : D} {r : List D} {gs : List Tg} {env : Ev} {S : Sto} {nx : Ev → Sto → Prop} (k : asgLK S gs [x0, .lst r] env nx) : starK 1 0 gs (.lst (x0 :: r)) env S nx := starG rfl (by simp) (by simp [starD]) k
theorem startup2 {x0 x1 : D} {r : List D} {gs : List Tg} {env : Ev} {S : Sto} {nx : Ev → Sto → Prop} (k : asgLK S gs [x0, x1, .lst r] env nx) : starK 2 0 gs (.tup (x0 :: x1 :: r)) env S nx := starG rfl (by simp) (by simp [starD]) k
theorem starlst2 {x0 x1 : D} {r : List D} {gs : List Tg} {env : Ev} {S : Sto} {nx : Ev → Sto → Prop} (k : asgLK S gs [x0, x1, .lst r] env nx) : starK 2 0 gs (.lst (x0 :: x1 :: r)) env S nx := starG rfl (by simp) (by simp [starD]) k
theorem startup3 {x0 x1 x2 : D} {r : List D} {gs : List Tg} {env : Ev} {S : Sto} {nx : Ev → Sto → Prop} (k : asgLK S gs [x0, x1, x2, .lst r] env nx) : starK 3 0 gs (.tup (x0 :: x1 :: x2 :: r)) env S nx := starG rfl (by simp) (by simp [starD]) k
theorem starlst3 {x0 x1 x2 : D} {r : List D} {gs : List Tg} {env : Ev} {S : Sto} {nx : Ev → Sto → Prop} (k : asgLK S gs [x0, x1, x2, .lst r] env nx) : starK 3 0 gs (.lst (x0 :: x1 :: x2 :: r)) env S nx := starG rfl (by simp) (by simp [starD]) k
theorem startup4 {x0 x1 x2 x3 : D} {r : List D} {gs : List Tg} {env : Ev} {S : Sto} {nx : Ev → Sto → Prop} (k : asgLK S gs [x0, x1, x2, x3, .lst r] env nx) : starK 4 0 gs (.tup (x0 :: x1 :: x2 :: x3 :: r)) env S nx := starG rfl (by simp) (by simp [starD]) k
theorem starlst4 {x0 x1 x2 x3 : D} {r : List D} {gs : List Tg} {env : Ev} {S : Sto} {nx : Ev → Sto → Prop} (k : asgLK S gs [x0, x1, x2, x3, .lst r] env nx) : starK 4 0 gs (.lst (x0 :: x1 :: x2 :: x3 :: r)) env S nx := starG rfl (by simp) (by simp [starD]) k
theorem entup0 {S : Sto} {Q : List D → Sto → Prop} (k : Q [] S) : enumK (.tup []) S Q := k
theorem enlst0 {S : Sto} {Q : List D → Sto → Prop} (k : Q [] S) : enumK (.lst []) S Q := k
theorem entup1 {x0 : D} {S : Sto} {Q : List D → Sto → Prop} (k : Q [.tup [.int 0, x0]] S) : enumK (.tup [x0]) S Q := k
theorem enlst1 {x0 : D} {S : Sto} {Q : List D → Sto → Prop} (k : Q [.tup [.int 0, x0]] S) : enumK (.lst [x0]) S Q := k
theorem entup2 {x0 x1 : D} {S : Sto} {Q : List D → Sto → Prop} (k : Q [.tup [.int 0, x0], .tup [.int 1, x1]] S) : enumK (.tup [x0, x1]) S Q := k
theorem enlst2 {x0 x1 : D} {S : Sto} {Q : List D → Sto → Prop} (k : Q [.tup [.int 0, x0], .tup [.int 1, x1]] S) : enumK (.lst [x0, x1]) S Q := k
theorem entup3 {x0 x1 x2 : D} {S : Sto} {Q : List D → Sto → Prop} (k : Q [.tup [.int 0, x0], .tup [.int 1, x1], .tup [.int 2, x2]] S) : enumK (.tup [x0, x1, x2]) S Q := k
theorem enlst3 {x0 x1 x2 : D} {S : Sto} {Q : List D → Sto → Prop} (k : Q [.tup [.int 0, x0], .tup [.int 1, x1], .tup [.int 2, x2]] S) : enumK (.lst [x0, x1, x2]) S Q := k
theorem entup4 {x0 x1 x2 x3 : D} {S : Sto} {Q : List D → Sto → Prop} (k : Q [.tup [.int 0, x0], .tup [.int 1, x1], .tup [.int 2, x2], .tup [.int 3, x3]] S) : enumK (.tup [x0, x1, x2, x3]) S Q := k
theorem enlst4 {x0 x1 x2 x3 : D} {S : Sto} {Q : List D → Sto → Prop} (k : Q [.tup [.int 0, x0], .tup [.int 1, x1], .tup [.int 2, x2], .tup [.int 3, x3]] S) : enumK (.lst [x0, x1, x2, x3]) S Q := k
theorem entup5 {x0 x1 x2 x3 x4 : D} {S : Sto} {Q : List D → Sto → Prop} (k : Q [.tup [.int 0, x0], .tup [.int 1, x1], .tup [.int 2, x2], .tup [.int 3, x3], .tup [.int 4, x4]] S) : enumK (.tup [x0, x1, x2, x3, x4]) S Q := k
theorem enlst5 {x0 x1 x2 x3 x4 : D} {S : Sto} {Q : List D → Sto → Prop} (k : Q [.tup [.int 0, x0], .tup [.int 1, x1], .tup [.int 2, x2], .tup [.int 3, x3], .tup [.int 4, x4]] S) : enumK (.lst [x0, x1, x2, x3, x4]) S Q := k
theorem entup6 {x0 x1 x2 x3 x4 x5 : D} {S : Sto} {Q : List D → Sto → Prop} (k : Q [.tup [.int 0, x0], .tup [.int 1, x1], .tup [.int 2, x2], .tup [.int 3, x3], .tup [.int 4, x4], .tup [.int 5, x5]] S) : enumK (.tup [x0, x1, x2, x3, x4, x5]) S Q := k
theorem enlst6 {x0 x1 x2 x3 x4 x5 : D} {S : Sto} {Q : List D → Sto → Prop} (k : Q [.tup [.int 0, x0], .tup [.int 1, x1], .tup [.int 2, x2], .tup [.int 3, x3], .tup [.int 4, x4], .tup [.int 5, x5]] S) : enumK (.lst [x0, x1, x2, x3, x4, x5]) S Q := k
theorem slfT1 {x0 : D} {r : List D} {S : Sto} {Q : DK} (k : Q (.tup r) S) : fSl (.tup (x0 :: r)) (some 1) none S Q := slT (by unfold Bl.cutD HT.sIx; simp) k
theorem sltT1 {x0 : D} {r : List D} {S : Sto} {Q : DK} (k : Q (.tup [x0]) S) : fSl (.tup (x0 :: r)) none (some 1) S Q := slT (by unfold Bl.cutD HT.sIx; simp) k
theorem slfT2 {x0 x1 : D} {r : List D} {S : Sto} {Q : DK} (k : Q (.tup r) S) : fSl (.tup (x0 :: x1 :: r)) (some 2) none S Q := slT (by unfold Bl.cutD HT.sIx; simp) k
theorem sltT2 {x0 x1 : D} {r : List D} {S : Sto} {Q : DK} (k : Q (.tup [x0, x1]) S) : fSl (.tup (x0 :: x1 :: r)) none (some 2) S Q := slT (by unfold Bl.cutD HT.sIx; simp) k
theorem slfT3 {x0 x1 x2 : D} {r : List D} {S : Sto} {Q : DK} (k : Q (.tup r) S) : fSl (.tup (x0 :: x1 :: x2 :: r)) (some 3) none S Q := slT (by unfold Bl.cutD HT.sIx; simp) k
theorem sltT3 {x0 x1 x2 : D} {r : List D} {S : Sto} {Q : DK} (k : Q (.tup [x0, x1, x2]) S) : fSl (.tup (x0 :: x1 :: x2 :: r)) none (some 3) S Q := slT (by unfold Bl.cutD HT.sIx; simp) k
theorem slfT4 {x0 x1 x2 x3 : D} {r : List D} {S : Sto} {Q : DK} (k : Q (.tup r) S) : fSl (.tup (x0 :: x1 :: x2 :: x3 :: r)) (some 4) none S Q := slT (by unfold Bl.cutD HT.sIx; simp) k
theorem sltT4 {x0 x1 x2 x3 : D} {r : List D} {S : Sto} {Q : DK} (k : Q (.tup [x0, x1, x2, x3]) S) : fSl (.tup (x0 :: x1 :: x2 :: x3 :: r)) none (some 4) S Q := slT (by unfold Bl.cutD HT.sIx; simp) k
theorem slfL1 {x0 : D} {r : List D} {S : Sto} {Q : DK} (k : Q (.lst r) S) : fSl (.lst (x0 :: r)) (some 1) none S Q := slL (by unfold Bl.cutD HT.sIx; simp) k
theorem sltL1 {x0 : D} {r : List D} {S : Sto} {Q : DK} (k : Q (.lst [x0]) S) : fSl (.lst (x0 :: r)) none (some 1) S Q := slL (by unfold Bl.cutD HT.sIx; simp) k
theorem slfL2 {x0 x1 : D} {r : List D} {S : Sto} {Q : DK} (k : Q (.lst r) S) : fSl (.lst (x0 :: x1 :: r)) (some 2) none S Q := slL (by unfold Bl.cutD HT.sIx; simp) k
theorem sltL2 {x0 x1 : D} {r : List D} {S : Sto} {Q : DK} (k : Q (.lst [x0, x1]) S) : fSl (.lst (x0 :: x1 :: r)) none (some 2) S Q := slL (by unfold Bl.cutD HT.sIx; simp) k
theorem slfL3 {x0 x1 x2 : D} {r : List D} {S : Sto} {Q : DK} (k : Q (.lst r) S) : fSl (.lst (x0 :: x1 :: x2 :: r)) (some 3) none S Q := slL (by unfold Bl.cutD HT.sIx; simp) k
theorem sltL3 {x0 x1 x2 : D} {r : List D} {S : Sto} {Q : DK} (k : Q (.lst [x0, x1, x2]) S) : fSl (.lst (x0 :: x1 :: x2 :: r)) none (some 3) S Q := slL (by unfold Bl.cutD HT.sIx; simp) k
theorem slfL4 {x0 x1 x2 x3 : D} {r : List D} {S : Sto} {Q : DK} (k : Q (.lst r) S) : fSl (.lst (x0 :: x1 :: x2 :: x3 :: r)) (some 4) none S Q := slL (by unfold Bl.cutD HT.sIx; simp) k
theorem sltL4 {x0 x1 x2 x3 : D} {r : List D} {S : Sto} {Q : DK} (k : Q (.lst [x0, x1, x2, x3]) S) : fSl (.lst (x0 :: x1 :: x2 :: x3 :: r)) none (some 4) S Q := slL (by unfold Bl.cutD HT.sIx; simp) k
theorem startup_2 {x0 x1 : D} {gs : List Tg} {env : Ev} {S : Sto} {nx : Ev → Sto → Prop} (k : asgLK S gs [.lst [], x0, x1] env nx) : starK 0 2 gs (.tup [x0, x1]) env S nx := starG rfl (by simp) rfl k
theorem starlst_2 {x0 x1 : D} {gs : List Tg} {env : Ev} {S : Sto} {nx : Ev → Sto → Prop} (k : asgLK S gs [.lst [], x0, x1] env nx) : starK 0 2 gs (.lst [x0, x1]) env S nx := starG rfl (by simp) rfl k
theorem startup_3 {x0 x1 x2 : D} {gs : List Tg} {env : Ev} {S : Sto} {nx : Ev → Sto → Prop} (k : asgLK S gs [.lst [x0], x1, x2] env nx) : starK 0 2 gs (.tup [x0, x1, x2]) env S nx := starG rfl (by simp) rfl k
theorem starlst_3 {x0 x1 x2 : D} {gs : List Tg} {env : Ev} {S : Sto} {nx : Ev → Sto → Prop} (k : asgLK S gs [.lst [x0], x1, x2] env nx) : starK 0 2 gs (.lst [x0, x1, x2]) env S nx := starG rfl (by simp) rfl k
theorem startup_4 {x0 x1 x2 x3 : D} {gs : List Tg} {env : Ev} {S : Sto} {nx : Ev → Sto → Prop} (k : asgLK S gs [.lst [x0, x1], x2, x3] env nx) : starK 0 2 gs (.tup [x0, x1, x2, x3]) env S nx := starG rfl (by simp) rfl k
theorem starlst_4 {x0 x1 x2 x3 : D} {gs : List Tg} {env : Ev} {S : Sto} {nx : Ev → Sto → Prop} (k : asgLK S gs [.lst [x0, x1], x2, x3] env nx) : starK 0 2 gs (.lst [x0, x1, x2, x3]) env S nx := starG rfl (by simp) rfl k
end Go

/-! list + list, whatever kind of list -/
namespace PySem.AutoSeq1
theorem list_add_any (l : Addr) (items : Array Value) (n : Nat) (b : Addr) (items2 : Array Value) (n2 : Nat) (s1 s2 : Array (Option Value)) (hc0 : items.size + items2.size ≤ sizeLine) :
    Meets (Builtin.«list.__add__» ⟨[.ref l, .ref b], []⟩) (fun _ R s => s.heap.get? l = some { cls := .type "list", dict := none, data := .seq items n, slots := s1 } ∧ s.heap.get? b = some { cls := .type "list", dict := none, data := .seq items2 n2, slots := s2 } ∧ R (.ok (.ret (Value.ref s.heap.objs.size))) { s with heap := s.heap.push { cls := Value.type "list", data := Data.seq (items ++ items2) }, toks := s.toks }) :=
  .of_wp fun prog w A R s h => by obtain ⟨hp, g, d, tk, os⟩ := s; obtain ⟨hl, hb, h⟩ := h; have f1 := idx_int; have f2 := sub_tuple_tuple; have f3 := sub_list_list; have f4 := sub_tuple_list; have f5 := sub_list_tuple; wp_walk using wpAny_loadPart' hl, wpAny_loadPart' hb; exact ⟨_, rfl, h⟩
end PySem.AutoSeq1
namespace Bl
open PySem PySem.Spec PyProof.Rows L2
section
variable {X : Cx}
def rCatL (K : PySem.W.Frag) : R2 := fun x y H Q => ∃ l b xs zs, x = .ref l ∧ y = .ref b ∧ SqL K H l xs ∧ SqL K H b zs ∧ xs.length + zs.length ≤ sizeLine ∧ ∀ p, H p = none → Q (.ref p) (upd H p (.lst (xs ++ zs)))
theorem op_catL : OpR X (binaryOp .Add) (rCatL X.K) := by
  intro pins s σ H x y v u Q I rx ry h
  obtain ⟨l, b, xs, zs, rfl, rfl, hH, hB, hz, q⟩ := h
  cases rx
  cases ry
  obtain ⟨its, r, ⟨o, n, e, c1, c2, c3⟩, _⟩ := I.list hH
  obtain ⟨its2, r2, ⟨o2, n2, e2, d1, d2, d3⟩, _⟩ := I.list hB
  obtain ⟨cls, dct, dat, sl⟩ := o
  obtain ⟨cls2, dct2, dat2, sl2⟩ := o2
  dsimp only at c1 c2 c3 d1 d2 d3
  subst c1 c2 c3 d1 d2 d3
  have l1 := r.length
  have l2 := r2.length
  refine PySem.concat_meets ⟨_, e, rfl⟩ ⟨_, e2, rfl⟩ PySem.noFill_list_add PySem.seq_list_add F.slot_list_add F.entry_list_add (F.args_list_add_2 _ _) (PySem.AutoSeq1.list_add_any _ _ _ _ _ _ _ _ (by rw [List.size_toArray, List.size_toArray]; omega)) ⟨e, e2, ?_⟩
  have ea : its.toArray ++ its2.toArray = (its ++ its2).toArray := by simp
  rw [ea]
  exact ⟨.ref _, _, I.lnew (t' := s.toks) (r.append r2) (by rw [List.length_append]; omega), rfl, q _ I.fresh⟩
def fCat : F2 := fun x y S Q => match x, y with
  | .lst a, .lst b => a.length + b.length ≤ sizeLine ∧ Q (.lst (a ++ b)) S
  | _, _ => False
theorem moCat : MoF2 fCat := by (intro x y S Q Q' h q; unfold fCat at q ⊢; split at q <;> first | exact h _ _ q | exact ⟨q.1, h _ _ q.2⟩ | exact ⟨q.1, q.2.1, h _ _ q.2.2⟩ | exact q.elim)
theorem lst_sq {K : Kz} {S : Sto} {H : Hp} {ds : List D} {v : V} (h : Rp K S H (.lst ds) v) : ∃ a vs, v = .ref a ∧ SqL K.K H a vs ∧ RpL K S H ds vs := by
  cases h with
  | lst h1 _ _ h2 => exact ⟨_, _, rfl, .inl h1, h2⟩
  | lstK h1 h2 => exact ⟨_, _, rfl, SqL.ofK h1, h2⟩
theorem opD_cat : OpD X (binaryOp .Add) fCat := by
  refine ⟨moCat, fun pins s σ H x y v u Q Z S dx dy I rx ry rs r1 r2 h => ?_⟩
  cases dx <;> first | exact h.elim | skip
  cases dy <;> first | exact h.elim | skip
  obtain ⟨a, vs, rfl, h1, p1⟩ := lst_sq r1
  obtain ⟨b, ws, rfl, h2, p2⟩ := lst_sq r2
  refine op_catL pins s σ H _ _ v u Q I rx ry ⟨_, _, _, _, rfl, rfl, h1, h2, by rw [← p1.length, ← p2.length]; exact h.1, fun p hp => ?_⟩
  obtain ⟨a1, r⟩ := Rp.newL rs hp (p1.append p2)
  exact h.2 _ _ a1 r
end
/-! ### sorted, of whole numbers, of a list that is grown too -/
end Bl

/-! sorted(set(..)) of whole numbers -/
namespace Bl
open PySem PySem.Spec PyProof.Rows L2
section
variable {P : Program} {w : World} {A : Around} {E : Value → Shared → Prop} {s : Shared}
end
end Bl

namespace Bl
open PySem PySem.Spec PyProof.Rows L2
section
variable {X : Cx}
end
/-- whole numbers of a list, grown or not -/
def setK (d : D) (S : Sto) (Q : DK) : Prop := match itemsOf S d with
  | some xs => (match intsOf xs with | some ns => ns.length < 64 ∧ ∀ ms : List Int, ms.Pairwise (· < ·) → (∀ k, k ∈ ms ↔ k ∈ ns) → Q (.lst (ms.map D.int)) S | none => False)
  | none => False
def notTup : D → Bool
  | .tup _ => false
  | _ => true
def dSortSet (t : TEd) : TEd := fun env S Q E => t env S (fun d S1 => notTup d = true ∧ setK d S1 Q) E
theorem moSortSet {t : TEd} (ht : MoE t) : MoE (dSortSet t) := fun env S Q Q' E E' h he q => ht _ _ _ _ _ _ (fun d S1 q1 => ⟨q1.1, by
  have q1 := q1.2
  unfold setK at q1 ⊢
  split at q1
  · split at q1
    · exact ⟨q1.1, fun ms h1 h2 => h _ _ (q1.2 ms h1 h2)⟩
    · exact q1.elim
  · exact q1.elim⟩) he q
section
variable {P : Program} {w : World} {K : PySem.W.Frag} {mg : Str → Option Value} {base : Heap} {N : List Str} {sc : Scope} {vw : Vw} {k : Nat} {X : Cx} {W : WX}
end
/-- list + list, the first one grown or not -/
def fCatR : F2 := fun x y S Q => match x, y with
  | .lst a, .lst b => a.length + b.length ≤ sizeLine ∧ Q (.lst (a ++ b)) S
  | .ref r, .lst b => match S r with
    | some a => a.length + b.length ≤ sizeLine ∧ Q (.lst (a ++ b)) S
    | none => False
  | _, _ => False
theorem moCatR : MoF2 fCatR := fun x y S Q Q' h q => by
  unfold fCatR at q ⊢
  split at q
  · exact ⟨q.1, h _ _ q.2⟩
  · split at q
    · exact ⟨q.1, h _ _ q.2⟩
    · exact q.elim
  · exact q.elim
end Bl

namespace Bl
open PySem PySem.Spec PyProof.Rows L2
variable {X : Cx}
/-- != , the first one a grown list or not -/
def fNeR : F2 := fun x y S Q => match x with
  | .ref r => match S r with
    | some xs => fNe (.lst xs) y S Q
    | none => False
  | x => fNe x y S Q
theorem moNeR : MoF2 fNeR := fun x y S Q Q' h q => by
  unfold fNeR at q ⊢
  split at q
  · split at q
    · exact moNe _ _ _ _ _ h q
    · exact q.elim
  · rename_i hx
    exact moNe _ _ _ _ _ h q
end Bl

/-! zip with strict=True, zip of what is reversed: at the library's level. -/
namespace ZG
open PySem PySem.Spec PyProof.Rows RT
section
variable {prog : Program} {w : World} {A : Around} {E : Value → Shared → Prop} {s : Shared}
end
/-! ### strict -/
section
variable {prog : Program} {w : World} {A : Around} {E : Value → Shared → Prop} {s : Shared} {z TI TO i1 i2 : Addr} {fp1 fp2 : List Addr} {n1 n2 i : Nat} {P1 P2 : Nat → Value → Prop} {St1 St2 : Nat → Heap → Prop} {a1 a2 : Value}
end
/-! ### zip(a, b, strict=True), a and b lists or tuples -/
/-- an iterator begins over v: the object that is laid -/
structure Beg (v : Value) (o : Obj) (Hs : Heap → Prop) : Prop where
  iter : ∀ (prog : Program) (w : World) (A : Around) (E : Value → Shared → Prop) (s : Shared) (Q : Value → Shared → Prop), Hs s.heap → Q (.ref s.heap.objs.size) { s with heap := s.heap.push o } → wpAny (model prog w) A (pyIter v) Q E s
  up : ∀ (h : Heap) (o' : Obj), Hs h → Hs (h.push o')
  free : o.isFreed = false
end ZG

namespace ZG
open PySem PySem.Spec PyProof.Rows RT
section
variable {prog : Program} {w : World} {A : Around} {E : Value → Shared → Prop} {s : Shared}
end
/-! ### zip(reversed(a), reversed(b)) -/
/-- an iterator that is its own -/
structure Own (i : Addr) (Hs : Heap → Prop) : Prop where
  iter : ∀ (prog : Program) (w : World) (A : Around) (E : Value → Shared → Prop) (s : Shared) (Q : Value → Shared → Prop), Hs s.heap → Q (.ref i) s → wpAny (model prog w) A (pyIter (.ref i)) Q E s
section
variable {prog : Program} {w : World} {A : Around} {E : Value → Shared → Prop} {s : Shared}
end
end ZG

/-! zip of lists and tuples, read from either end, strict or not, as a walk. -/
namespace ZG
open PySem PySem.Spec PyProof.Rows L2 RT
inductive SK where
  | l | t | rl | rt
def SK.sq (K : PySem.W.Frag) : SK → Hp → Addr → List V → Prop
  | .l => SqL K | .rl => SqL K | .t => SqT K | .rt => SqT K
def SK.it : SK → Heap → Addr → Addr → Nat → Nat → Prop
  | .l, h, it, a, _, i => h.IsListIter it a i
  | .t, h, it, a, _, i => h.IsTupleIter it a i
  | .rl, h, it, a, n, i => i ≤ n ∧ h.IsRevIter it a ((n : Int) - 1 - (i : Int))
  | .rt, h, it, a, n, i => i ≤ n ∧ IsRt h it a ((n : Int) - 1 - (i : Int))
theorem SK.inj {X : Cx} {pins : List (Addr × Obj)} {σ : L2.St} {H : Hp} {s : Shared} {k : SK} (I : Inv X pins σ H s) {a : Addr} {xs ys : List V} (h1 : k.sq X.K H a xs) (h2 : k.sq X.K H a ys) : xs = ys := by
  cases k with
  | l => exact I.list_inj h1 h2
  | t => exact I.tuple_inj h1 h2
  | rl => exact I.list_inj h1 h2
  | rt => exact I.tuple_inj h1 h2
end ZG

namespace ZG
open PySem PySem.Spec PyProof.Rows L2 RT
theorem SK.lt {X : Cx} {pins : List (Addr × Obj)} {σ : L2.St} {H : Hp} {s : Shared} (k : SK) (I : Inv X pins σ H s) {a : Addr} {xs : List V} (hq : k.sq X.K H a xs) : ∃ o, s.heap.get? a = some o ∧ (o.cls = .type "list" ∨ o.cls = .type "tuple") := by
  cases k with
  | l => obtain ⟨its, rv, p, _⟩ := I.list hq; obtain ⟨o, ho, hc, _⟩ := p.isList; exact ⟨o, ho, .inl hc⟩
  | t => obtain ⟨its, rv, p, _⟩ := I.tuple hq; obtain ⟨o, ho, hc, _⟩ := id p; exact ⟨o, ho, .inr hc⟩
  | rl => obtain ⟨its, rv, p, _⟩ := I.list hq; obtain ⟨o, ho, hc, _⟩ := p.isList; exact ⟨o, ho, .inl hc⟩
  | rt => obtain ⟨its, rv, p, _⟩ := I.tuple hq; obtain ⟨o, ho, hc, _⟩ := id p; exact ⟨o, ho, .inr hc⟩
theorem SK.own {k : SK} (hk : k = .rl ∨ k = .rt) {i a : Addr} {n : Nat} : Own i (fun h => k.it h i a n 0) := by
  rcases hk with rfl | rfl
  · exact ⟨fun _ _ _ _ _ _ h q => wpAny_pyIter_revIter h.2 q⟩
  · exact ⟨fun _ _ _ _ _ _ h q => iter_rt h.2 q⟩
end ZG

namespace Bl
open PySem PySem.Spec PyProof.Rows L2 ZG
/-! ### zip(x, y, strict=True), zip(reversed(x), reversed(y)) over data -/
def zipSK (x y : D) (S : Sto) (Q : List D → Sto → Prop) : Prop := match seqD x with
  | some xs => (match seqD y with | some ys => xs.length = ys.length ∧ Q (zipD xs ys) S | none => False)
  | none => False
def seqK (x : D) (k : List D → Prop) : Prop := match seqD x with
  | some xs => k xs
  | none => False
theorem seqK.imp {x : D} {k k' : List D → Prop} (h : seqK x k) (i : ∀ xs, k xs → k' xs) : seqK x k' := by
  unfold seqK at *
  split at h
  · exact i _ h
  · exact h.elim
theorem seqK.ex {x : D} {k : List D → Prop} (h : seqK x k) : ∃ xs, seqD x = some xs ∧ k xs := by
  unfold seqK at h
  split at h
  · exact ⟨_, by assumption, h⟩
  · exact h.elim
def iZipSD (t u : TEd) : TAd := fun env S Q E => t env S (fun x S1 => u env S1 (fun y S2 => zipSK x y S2 Q) E) E
def iZipRD (t u : TEd) : TAd := fun env S Q E => t env S (fun x S1 => seqK x fun xs => u env S1 (fun y S2 => seqK y fun ys => Q (zipD xs.reverse ys.reverse) S2) E) E
theorem moZipSD {t u : TEd} (ht : MoE t) (hu : MoE u) : MoE (iZipSD t u) := fun env S Q Q' E E' h he q => ht _ _ _ _ _ _ (fun x S1 q1 => hu _ _ _ _ _ _ (fun y S2 q2 => by
  unfold zipSK at q2 ⊢
  split at q2
  · split at q2
    · exact ⟨q2.1, h _ _ q2.2⟩
    · exact q2.elim
  · exact q2.elim) he q1) he q
theorem moZipRD {t u : TEd} (ht : MoE t) (hu : MoE u) : MoE (iZipRD t u) := fun env S Q Q' E E' h he q => ht _ _ _ _ _ _ (fun x S1 q1 => q1.imp fun xs q1 => hu _ _ _ _ _ _ (fun y S2 q2 => q2.imp fun ys q2 => h _ _ q2) he q1) he q
section
variable {P : Program} {w : World} {K : PySem.W.Frag} {mg : Str → Option Value} {base : Heap} {N : List Str} {sc : Scope} {vw : Vw} {k : Nat} {X : Cx} {W : WX}
end
end Bl

namespace Go
open PySem PySem.Spec PyProof.Rows L2 Bl Lb
section
variable {env : Ev} {S : Sto} {E : EK} {t u : TEd} {Q : List D → Sto → Prop} {ds es : List D} {a b : D} {N : Nd} {g : Tg} {tb : TSd} {tt : TTd} {te : TEd} {k' : List D → Prop}
theorem zipS' (k : t env S (fun x S1 => u env S1 (fun y S2 => zipSK x y S2 Q) E) E) : iZipSD t u env S Q E := k
theorem zipST (h : Nat.beq ds.length es.length = true) (k : Q (zipD ds es) S) : zipSK (.tup ds) (.tup es) S Q := ⟨Nat.eq_of_beq_eq_true h, k⟩
theorem zipSL (h : Nat.beq ds.length es.length = true) (k : Q (zipD ds es) S) : zipSK (.lst ds) (.lst es) S Q := ⟨Nat.eq_of_beq_eq_true h, k⟩
theorem zipR' (k : t env S (fun x S1 => seqK x fun xs => u env S1 (fun y S2 => seqK y fun ys => Q (zipD xs.reverse ys.reverse) S2) E) E) : iZipRD t u env S Q E := k
theorem seqT (k : k' ds) : seqK (.tup ds) k' := k
theorem seqL (k : k' ds) : seqK (.lst ds) k' := k
theorem for_zc (k : forD g tb (.tup [a, b] :: zipD ds es) env S N) : forD g tb (zipD (a :: ds) (b :: es)) env S N := k
theorem for_zn (k : forD g tb [] env S N) : forD g tb (zipD [] es) env S N := k
theorem lg_zc {Q : List D → Sto → Prop} (k : lcGo g tt te env (.tup [a, b] :: zipD ds es) S Q) : lcGo g tt te env (zipD (a :: ds) (b :: es)) S Q := k
theorem lg_zn {Q : List D → Sto → Prop} (k : lcGo g tt te env [] S Q) : lcGo g tt te env (zipD [] es) S Q := k
end
end Go
namespace Go
open PySem PySem.Spec PyProof.Rows L2 Bl Lb
theorem appK {r : Addr} {d : D} {xs : List D} {S : Sto} {Q : DK} (h : S r = some xs) (hl : xs.length < 1000) (k : Q .non (sup S r (xs ++ [d]))) : gApp r [d] S Q := by
  unfold gApp
  dsimp only
  rw [h]
  exact ⟨Nat.lt_trans hl (by decide), k⟩
end Go
namespace Go
open PySem PySem.Spec PyProof.Rows L2 Bl Lb
theorem frz {i : Nat} {env : Ev} {S : Sto} {N : Nd} {t : TSd} {a : Addr} {ds : List D} (e : env[i]? = some (some (.ref a))) (h : S a = some ds) (k : t (env.set i (some (.lst ds))) (sdel S a) N) : sFrz i t env S N := by
  unfold sFrz
  rw [e]
  dsimp only
  rw [h]
  exact k
end Go

namespace Lb
open PySem PySem.Spec PyProof.Rows L2 Bl
/-! ### == of a thing and itself; what may be compared -/
mutual
theorem eqD_refl : ∀ d : D, pl d = true → eqD d d = true
  | .non, _ => rfl
  | .bl b, _ => by cases b <;> rfl
  | .int i, _ => by show (i == i) = true; exact beq_self_eq_true i
  | .str x, _ => by show (x == x) = true; exact beq_self_eq_true x
  | .tup ds, h => eqL_refl ds h
  | .lst ds, h => eqL_refl ds h
  | .ref _, h => by cases h
  | .obj _, h => by cases h
theorem eqL_refl : ∀ ds : List D, plL ds = true → PyData.eqvAll (pyL ds) (pyL ds) = true
  | [], _ => rfl
  | d :: ds, h => by
    obtain ⟨h1, h2⟩ := Bool.and_eq_true_iff.mp (show (pl d && plL ds) = true from h)
    show (PyData.eqv (py d) (py d) && PyData.eqvAll (pyL ds) (pyL ds)) = true
    rw [show PyData.eqv (py d) (py d) = true from eqD_refl d h1, eqL_refl ds h2]
    rfl
end
structure okN (n : Nat) (d : D) : Prop where
  p : pl d = true
  c : (py d).canLay0 = true
  d : (py d).depth ≤ n
theorem okN.ok {n : Nat} {d : D} (h : okN n d) (hn : n ≤ 64) : okD d := ⟨h.p, by
  unfold SeqAt.shaped
  rw [h.c]
  exact decide_eq_true (Nat.le_trans h.d hn)⟩
theorem okN.mono {m n : Nat} {d : D} (h : okN m d) (l : m ≤ n) : okN n d := ⟨h.p, h.c, Nat.le_trans h.d l⟩
theorem okN_int {n : Nat} (i : Int) : okN n (.int i) := ⟨rfl, rfl, Nat.zero_le _⟩
theorem okN_str {n : Nat} {x : Str} (h : okD (.str x)) : okN n (.str x) := ⟨rfl, SeqAt.canLay_of_shaped h.2, Nat.zero_le _⟩
structure okNs (n : Nat) (ds : List D) : Prop where
  p : plL ds = true
  c : PyData.canLayAll0 (pyL ds) = true
  d : PyData.depthAll (pyL ds) ≤ n
theorem okNs_nil {n : Nat} : okNs n [] := ⟨rfl, rfl, Nat.zero_le _⟩
theorem okNs_cons {n : Nat} {d : D} {ds : List D} (h : okN n d) (k : okNs n ds) : okNs n (d :: ds) := ⟨by
  show (pl d && plL ds) = true
  rw [h.p, k.p]; rfl, by
  show (PyData.canLay0 (py d) && PyData.canLayAll0 (pyL ds)) = true
  rw [h.c, k.c]; rfl, by
  show max (PyData.depth (py d)) (PyData.depthAll (pyL ds)) ≤ n
  exact Nat.max_le.mpr ⟨h.d, k.d⟩⟩
theorem okNs_all {n : Nat} : ∀ {ds : List D}, (∀ d ∈ ds, okN n d) → okNs n ds
  | [], _ => okNs_nil
  | d :: ds, h => okNs_cons (h d (List.mem_cons_self ..)) (okNs_all fun e he => h e (List.mem_cons_of_mem _ he))
theorem okN_tup {n : Nat} {ds : List D} (h : okNs n ds) : okN (n + 1) (.tup ds) := ⟨h.p, h.c, by
  show PyData.depthAll (pyL ds) + 1 ≤ n + 1
  have := h.d
  omega⟩
theorem okN_lst {n : Nat} {ds : List D} (h : okNs n ds) : okN (n + 1) (.lst ds) := ⟨h.p, h.c, by
  show PyData.depthAll (pyL ds) + 1 ≤ n + 1
  have := h.d
  omega⟩
theorem okN_pr {n : Nat} (a b : Int) : okN (n + 1) (.tup [.int a, .int b]) := okN_tup (okNs_cons (okN_int _) (okNs_cons (okN_int _) okNs_nil))
theorem eq_refl {d : D} {n : Nat} {S : Sto} {Q : DK} (h : okN n d) (hn : n ≤ 64) (k : Q (.bl true) S) : fEq d d S Q := ⟨h.ok hn, h.ok hn, by rw [eqD_refl d h.p]; exact k⟩
end Lb

namespace Lb
open PySem PySem.Spec PyProof.Rows L2 Bl
def t_far_square : TSd := sRet (dTwo (dTwo (dTwo (dTwo (vr 0) (cn (.int 0)) fIx) (dTwo (vr 1) (cn (.int 0)) fIx) fSub) (cn (.int 2)) fPow) (dTwo (dTwo (dTwo (vr 0) (cn (.int 1)) fIx) (dTwo (vr 1) (cn (.int 1)) fIx) fSub) (cn (.int 2)) fPow) fAdd)
def m_far_square : TFd := fnD 2 2 t_far_square
theorem e_far_square {a0 a1 : D} {S : Sto} {Q : DK} {E : EK} (k : t_far_square [some a0, some a1] S ⟨fun _ S1 => Q .non S1, Q, fun _ _ => False, fun _ _ => False, fun x _ S1 => E x S1⟩) : m_far_square [a0, a1] S Q E := ⟨rfl, k⟩
def t_step_from : TSd := sRet (dTup (aCons (dTwo (dTwo (vr 0) (cn (.int 0)) fIx) (dTwo (vr 1) (cn (.int 0)) fIx) fSub) (aCons (dTwo (dTwo (vr 0) (cn (.int 1)) fIx) (dTwo (vr 1) (cn (.int 1)) fIx) fSub) (aNil))))
def m_step_from : TFd := fnD 2 2 t_step_from
theorem e_step_from {a0 a1 : D} {S : Sto} {Q : DK} {E : EK} (k : t_step_from [some a0, some a1] S ⟨fun _ S1 => Q .non S1, Q, fun _ _ => False, fun _ _ => False, fun x _ S1 => E x S1⟩) : m_step_from [a0, a1] S Q E := ⟨rfl, k⟩
def t_lowest : TSd := sSeq (sAsg (dCall m_common 2 0 (fun ds _ => ds) (aCons (dTwo (vr 0) (cn (.int 0)) fIx) (aCons (dTwo (vr 0) (cn (.int 1)) fIx) (aNil))) aNil) (.nm 1)) (sRet (dTup (aCons (dTwo (dTwo (vr 0) (cn (.int 0)) fIx) (vr 1) fDiv) (aCons (dTwo (dTwo (vr 0) (cn (.int 1)) fIx) (vr 1) fDiv) (aNil)))))
def m_lowest : TFd := fnD 1 2 t_lowest
theorem e_lowest {a0 : D} {S : Sto} {Q : DK} {E : EK} (k : t_lowest [some a0, none] S ⟨fun _ S1 => Q .non S1, Q, fun _ _ => False, fun _ _ => False, fun x _ S1 => E x S1⟩) : m_lowest [a0] S Q E := ⟨rfl, k⟩
def t_outward : TSd := sSeq (sAsg (dCall m_step_from 2 0 (fun ds _ => ds) (aCons (vr 1) (aCons (vr 0) (aNil))) aNil) (.tp (.nm 2 :: .nm 3 :: []))) (sRet (dCall m_lowest 1 0 (fun ds _ => ds) (aCons (dTup (aCons (vr 3) (aCons (dTwo (cn (.int 0)) (vr 2) fSub) (aNil)))) (aNil)) aNil))
def m_outward : TFd := fnD 2 4 t_outward
theorem e_outward {a0 a1 : D} {S : Sto} {Q : DK} {E : EK} (k : t_outward [some a0, some a1, none, none] S ⟨fun _ S1 => Q .non S1, Q, fun _ _ => False, fun _ _ => False, fun x _ S1 => E x S1⟩) : m_outward [a0, a1] S Q E := ⟨rfl, k⟩
def t_faces : TSd := sSeq (sStar (vr 0) 1 0 [.nm 1, .nm 2]) (sSeq (sIf (tbl (dTwo (vr 1) (cn (.str "spot")) fEq)) (sRet (dTup (aCons (dTup (aCons (cn (.str "round")) (aCons (dTwo (vr 2) (cn (.int 0)) fIx) (aCons (cn (.int 0)) (aCons (dTup (aCons (cn (.int 1)) (aCons (cn (.int 0)) (aNil)))) (aCons (dTup (aCons (cn (.int 1)) (aCons (cn (.int 0)) (aNil)))) (aNil))))))) (aNil)))) (sNx)) (sSeq (sStar (vr 2) 0 2 [.nm 3, .nm 4, .nm 5]) (sSeq (sAsg (dCall m_outward 2 0 (fun ds _ => ds) (aCons (vr 5) (aCons (vr 4) (aNil))) aNil) (.nm 6)) (sSeq (sIf (tbl (dTwo (vr 1) (cn (.str "cord")) fEq)) (sSeq (sAsg (dCall m_outward 2 0 (fun ds _ => ds) (aCons (vr 4) (aCons (vr 5) (aNil))) aNil) (.nm 7)) (sRet (dTup (aCons (dTup (aCons (cn (.str "side")) (aCons (vr 4) (aCons (vr 5) (aNil))))) (aCons (dTup (aCons (cn (.str "round")) (aCons (vr 5) (aCons (cn (.int 0)) (aCons (vr 7) (aCons (vr 6) (aNil))))))) (aCons (dTup (aCons (cn (.str "side")) (aCons (vr 5) (aCons (vr 4) (aNil))))) (aCons (dTup (aCons (cn (.str "round")) (aCons (vr 4) (aCons (cn (.int 0)) (aCons (vr 6) (aCons (vr 7) (aNil))))))) (aNil)))))))) (sNx)) (sSeq (sAsg (dTwo (vr 3) (cn (.int 0)) fIx) (.nm 8)) (sSeq (sPar [9, 10] (aCons (dCall m_lowest 1 0 (fun ds _ => ds) (aCons (dCall m_step_from 2 0 (fun ds _ => ds) (aCons (vr 4) (aCons (vr 8) (aNil))) aNil) (aNil)) aNil) (aCons (dCall m_lowest 1 0 (fun ds _ => ds) (aCons (dCall m_step_from 2 0 (fun ds _ => ds) (aCons (vr 5) (aCons (vr 8) (aNil))) aNil) (aNil)) aNil) (aNil)))) (sSeq (sAsg (dTup (aCons (cn (.str "round")) (aCons (vr 8) (aCons (dCall m_whole_root 1 0 (fun ds _ => ds) (aCons (dCall m_far_square 2 0 (fun ds _ => ds) (aCons (vr 8) (aCons (vr 4) (aNil))) aNil) (aNil)) aNil) (aCons (vr 9) (aCons (vr 10) (aNil))))))) (.nm 11)) (sRet (dTup (aCons (vr 11) (aCons (dTup (aCons (cn (.str "round")) (aCons (vr 5) (aCons (cn (.int 0)) (aCons (vr 10) (aCons (vr 6) (aNil))))))) (aCons (dTup (aCons (cn (.str "side")) (aCons (vr 5) (aCons (vr 4) (aNil))))) (aCons (dTup (aCons (cn (.str "round")) (aCons (vr 4) (aCons (cn (.int 0)) (aCons (vr 6) (aCons (vr 9) (aNil))))))) (aNil))))))))))))))
def m_faces : TFd := fnD 1 12 t_faces
theorem e_faces {a0 : D} {S : Sto} {Q : DK} {E : EK} (k : t_faces [some a0, none, none, none, none, none, none, none, none, none, none, none] S ⟨fun _ S1 => Q .non S1, Q, fun _ _ => False, fun _ _ => False, fun x _ S1 => E x S1⟩) : m_faces [a0] S Q E := ⟨rfl, k⟩
def t_l_point : TSd := sRet (dTup (aCons (dTwo (dCall m_l_take 2 0 (fun ds _ => ds) (aCons (vr 0) (aCons (dTwo (dTwo (cn (.int 2)) (vr 1) fMul) (cn (.int 1)) fAdd) (aNil))) aNil) (vr 1) fSub) (aCons (dTwo (dCall m_l_take 2 0 (fun ds _ => ds) (aCons (vr 0) (aCons (dTwo (dTwo (cn (.int 2)) (vr 1) fMul) (cn (.int 1)) fAdd) (aNil))) aNil) (vr 1) fSub) (aNil))))
def m_l_point : TFd := fnD 2 2 t_l_point
theorem e_l_point {a0 a1 : D} {S : Sto} {Q : DK} {E : EK} (k : t_l_point [some a0, some a1] S ⟨fun _ S1 => Q .non S1, Q, fun _ _ => False, fun _ _ => False, fun x _ S1 => E x S1⟩) : m_l_point [a0, a1] S Q E := ⟨rfl, k⟩
def t_l_turned : TSd := sSeq (sAsg (vr 0) (.tp (.nm 2 :: .nm 3 :: []))) (sSeq (sFor (iR1 (aCons (vr 1) (aNil))) (.nm 4) (sPar [2, 3] (aCons (dTwo (cn (.int 0)) (vr 3) fSub) (aCons (vr 2) (aNil))))) (sRet (dTup (aCons (vr 2) (aCons (vr 3) (aNil))))))
def m_l_turned : TFd := fnD 2 5 t_l_turned
theorem e_l_turned {a0 a1 : D} {S : Sto} {Q : DK} {E : EK} (k : t_l_turned [some a0, some a1, none, none, none] S ⟨fun _ S1 => Q .non S1, Q, fun _ _ => False, fun _ _ => False, fun x _ S1 => E x S1⟩) : m_l_turned [a0, a1] S Q E := ⟨rfl, k⟩
def t_l_added : TSd := sRet (dTup (aCons (dTwo (dTwo (vr 0) (cn (.int 0)) fIx) (dTwo (vr 1) (cn (.int 0)) fIx) fAdd) (aCons (dTwo (dTwo (vr 0) (cn (.int 1)) fIx) (dTwo (vr 1) (cn (.int 1)) fIx) fAdd) (aNil))))
def m_l_added : TFd := fnD 2 2 t_l_added
theorem e_l_added {a0 a1 : D} {S : Sto} {Q : DK} {E : EK} (k : t_l_added [some a0, some a1] S ⟨fun _ S1 => Q .non S1, Q, fun _ _ => False, fun _ _ => False, fun x _ S1 => E x S1⟩) : m_l_added [a0, a1] S Q E := ⟨rfl, k⟩
def t_l_thing : TSd := sSeq (sPar [2, 3] (aCons (dCall m_l_take 2 0 (fun ds _ => ds) (aCons (vr 0) (aCons (cn (.int 6)) (aNil))) aNil) (aCons (dCall m_l_point 2 0 (fun ds _ => ds) (aCons (vr 0) (aCons (vr 1) (aNil))) aNil) (aNil)))) (sSeq (sIf (tbl (dTwo (vr 2) (cn (.int 2)) fLt)) (sRet (dTup (aCons (cn (.str "spot")) (aCons (vr 3) (aNil))))) (sNx)) (sSeq (sAsg (dTwo (dLst (aCons (dTup (aCons (cn (.int 1)) (aCons (cn (.int 0)) (aNil)))) (aCons (dTup (aCons (cn (.int 3)) (aCons (cn (.int 4)) (aNil)))) (aCons (dTup (aCons (cn (.int 4)) (aCons (cn (.int 3)) (aNil)))) (aCons (dTup (aCons (cn (.int 5)) (aCons (cn (.int 12)) (aNil)))) (aCons (dTup (aCons (cn (.int 12)) (aCons (cn (.int 5)) (aNil)))) (aCons (dTup (aCons (cn (.int 8)) (aCons (cn (.int 15)) (aNil)))) (aCons (dTup (aCons (cn (.int 2)) (aCons (cn (.int 0)) (aNil)))) (aCons (dTup (aCons (cn (.int 6)) (aCons (cn (.int 8)) (aNil)))) (aNil)))))))))) (dCall m_l_take 2 0 (fun ds _ => ds) (aCons (vr 0) (aCons (cn (.int 8)) (aNil))) aNil) fIx) (.tp (.nm 4 :: .nm 5 :: []))) (sSeq (sPar [6, 7] (aCons (dCall m_l_take 2 0 (fun ds _ => ds) (aCons (vr 0) (aCons (cn (.int 4)) (aNil))) aNil) (aCons (dTwo (cn (.int 1)) (dCall m_l_take 2 0 (fun ds _ => ds) (aCons (vr 0) (aCons (dTwo (dLst (aCons (cn (.int 1)) (aCons (cn (.int 3)) (aNil)))) (dCall m_l_take 2 0 (fun ds _ => ds) (aCons (vr 0) (aCons (cn (.int 2)) (aNil))) aNil) fIx) (aNil))) aNil) fAdd) (aNil)))) (sSeq (sAsg (dCall m_l_turned 2 0 (fun ds _ => ds) (aCons (dTup (aCons (dTwo (vr 4) (vr 7) fMul) (aCons (dTwo (vr 5) (vr 7) fMul) (aNil)))) (aCons (vr 6) (aNil))) aNil) (.nm 8)) (sSeq (sIf (tbl (dTwo (vr 2) (cn (.int 4)) fLt)) (sRet (dTup (aCons (cn (.str "cord")) (aCons (vr 3) (aCons (dCall m_l_added 2 0 (fun ds _ => ds) (aCons (vr 3) (aCons (vr 8) (aNil))) aNil) (aNil)))))) (sNx)) (sSeq (sPar [9, 10] (aCons (dTup (aCons (dTwo (vr 4) (vr 7) fMul) (aCons (dTwo (vr 5) (vr 7) fMul) (aNil)))) (aCons (dTup (aCons (dTwo (cn (.int 0)) (dTwo (vr 4) (vr 7) fMul) fSub) (aCons (dTwo (vr 5) (vr 7) fMul) (aNil)))) (aNil)))) (sSeq (sAsg (dCall m_l_take 2 0 (fun ds _ => ds) (aCons (vr 0) (aCons (cn (.int 3)) (aNil))) aNil) (.nm 11)) (sSeq (sIf (tOrD (tbl (dTwo (vr 11) (cn (.int 0)) fEq)) (tbl (dTwo (vr 5) (cn (.int 0)) fEq))) (sAsg (dTup (aCons (dTwo (cn (.int 0)) (dTwo (vr 9) (cn (.int 0)) fIx) fSub) (aCons (dTwo (cn (.int 0)) (dTwo (vr 9) (cn (.int 1)) fIx) fSub) (aNil)))) (.nm 10)) (sIf (tbl (dTwo (vr 11) (cn (.int 1)) fEq)) (sPar [9, 10] (aCons (dTup (aCons (dTwo (cn (.int 25)) (vr 7) fMul) (aCons (cn (.int 0)) (aNil)))) (aCons (dTup (aCons (dTwo (cn (.int 7)) (vr 7) fMul) (aCons (dTwo (cn (.int 24)) (vr 7) fMul) (aNil)))) (aNil)))) (sNx))) (sRet (dTup (aCons (cn (.str "bow")) (aCons (vr 3) (aCons (dCall m_l_added 2 0 (fun ds _ => ds) (aCons (vr 3) (aCons (dCall m_l_turned 2 0 (fun ds _ => ds) (aCons (vr 9) (aCons (vr 6) (aNil))) aNil) (aNil))) aNil) (aCons (dCall m_l_added 2 0 (fun ds _ => ds) (aCons (vr 3) (aCons (dCall m_l_turned 2 0 (fun ds _ => ds) (aCons (vr 10) (aCons (vr 6) (aNil))) aNil) (aNil))) aNil) (aNil)))))))))))))))
def m_l_thing : TFd := fnD 2 12 t_l_thing
theorem e_l_thing {a0 a1 : D} {S : Sto} {Q : DK} {E : EK} (k : t_l_thing [some a0, some a1, none, none, none, none, none, none, none, none, none, none] S ⟨fun _ S1 => Q .non S1, Q, fun _ _ => False, fun _ _ => False, fun x _ S1 => E x S1⟩) : m_l_thing [a0, a1] S Q E := ⟨rfl, k⟩
end Lb

namespace Lb
open PySem PySem.Spec PyProof.Rows L2 Bl
local macro_rules | `(tactic| walk_at "bl0") => `(tactic| (with_reducible (first
  | (refine Go.gVr ?_; first | refine Go.vr0 ?_ | refine Go.vr1 ?_ | refine Go.vr2 ?_ | refine Go.vr3 ?_ | refine Go.vr4 ?_ | refine Go.vr5 ?_ | refine Go.vr6 ?_ | refine Go.vr7 ?_ | refine Go.vr8 ?_ | refine Go.vr9 ?_ | refine Go.vr10 ?_ | refine Go.vr11 ?_ | refine Go.vr12 ?_ | refine Go.vr13 ?_ | refine Go.vr14 ?_ | refine Go.vr15 ?_ | refine Go.vr16 ?_ | refine Go.vr17 ?_ | refine Go.vr18 ?_ | refine Go.vr19 ?_ | refine Go.vr20 ?_ | refine Go.vr21 ?_ | refine Go.vr22 ?_ | refine Go.vr23 ?_)
  | refine Go.seq ?_
  | refine Go.nx' ?_
  | refine Go.ret ?_
  | refine Go.if' ?_
  | refine Go.asg ?_
  | refine Go.par ?_
  | refine Go.drop ?_
  | refine Go.brk ?_
  | refine Go.cnt ?_
  | refine Go.raise ?_
  | refine Go.thru ?_
  | refine Go.tryAs ?_
  | refine Go.for' ?_
  | refine Go.sub ?_
  | refine Go.retN ?_
  | refine Go.par_cons ?_
  | refine Go.par_nil ?_
  | refine Go.cn' ?_
  | refine Go.two ?_
  | refine Go.nil ?_
  | refine Go.cons ?_
  | refine Go.tup ?_
  | refine Go.lst ?_
  | refine Go.lstR ?_
  | refine Go.tbl' ?_
  | refine Go.tblK' ?_
  | refine Go.ttr' ?_
  | refine Go.truB ?_
  | refine Go.truI ?_
  | refine Go.truN ?_
  | refine Go.and' ?_
  | refine Go.or' ?_
  | refine Go.not' ?_
  | refine Go.vOf' ?_
  | refine Go.vNot' ?_
  | refine Go.eIf' ?_
  | refine Go.ifT ?_
  | refine Go.ifF ?_
  | refine Go.ifN ?_
  | refine Go.add ?_
  | refine Go.sub' ?_
  | refine Go.lt ?_
  | refine Go.le ?_
  | refine Go.gt ?_
  | refine Go.ge ?_
  | refine Go.eqI ?_
  | refine Go.neI ?_
  | refine Go.is' ?_
  | refine Go.isNot' ?_
  | refine Go.chain ?_
  | refine Go.dB' ?_
  | refine Go.neg ?_
  | refine Go.neg' ?_
  | refine Go.abs' ?_
  | refine Go.lenT ?_
  | refine Go.lenL ?_
  | refine Go.max' ?_
  | refine Go.min' ?_
  | refine Go.intI ?_
  | refine Go.intB ?_
  | refine Go.tupL ?_
  | refine Go.tupT ?_
  | refine Go.isi ?_
  | refine Go.call ?_
  | refine Go.iVal' ?_
  | refine Go.iValT ?_
  | refine Go.iValL ?_
  | refine Go.r1 ?_
  | refine Go.r2 ?_
  | refine Go.star ?_
  | refine Go.l_cons ?_
  | refine Go.l_nil ?_
  | refine Go.enum' ?_
  | refine Go.rev' ?_
  | refine Go.zip' ?_
  | refine Go.wipe_nil ?_
  | refine Go.wipe_cons ?_
  | refine Go.iadd ?_
  | refine Go.sl ?_
  | refine Go.oN ?_
  | refine Go.oS ?_
  | refine Go.osK' ?_
  | refine Go.getL ?_
  | refine Go.lc ?_
  | refine Go.lcR ?_
  | refine Go.lg_nil ?_
  | refine Go.lg_cons ?_
  | refine Go.yes ?_
  | refine Go.for_nil ?_
  | refine Go.for_cons ?_
  | refine Go.revT ?_
  | refine Go.revL ?_
  | refine Go.zipT ?_
  | refine Go.zipL ?_
  | refine Go.tupK' rfl ?_
  | refine Go.lstK' rfl ?_
  | refine Go.callK' rfl rfl ?_
  | refine Go.lcL rfl ?_
  | refine Go.getLL' rfl ?_
  | refine Go.addT rfl ?_
  | (refine Go.gAsg ?_; first | refine Go.set0 ?_ | refine Go.set1 ?_ | refine Go.set2 ?_ | refine Go.set3 ?_ | refine Go.set4 ?_ | refine Go.set5 ?_ | refine Go.set6 ?_ | refine Go.set7 ?_ | refine Go.set8 ?_ | refine Go.set9 ?_ | refine Go.set10 ?_ | refine Go.set11 ?_ | refine Go.set12 ?_ | refine Go.set13 ?_ | refine Go.set14 ?_ | refine Go.set15 ?_ | refine Go.set16 ?_ | refine Go.set17 ?_ | refine Go.set18 ?_ | refine Go.set19 ?_ | refine Go.set20 ?_ | refine Go.set21 ?_ | refine Go.set22 ?_ | refine Go.set23 ?_ | refine Go.tp_cons ?_ | refine Go.tp_nil ?_)
  | (refine Go.gIxT ?_; first | refine Go.ixT0 ?_ | refine Go.ixT1 ?_ | refine Go.ixT2 ?_ | refine Go.ixT3 ?_ | refine Go.ixT4 ?_ | refine Go.ixT5 ?_ | refine Go.ixT6 ?_ | refine Go.ixT7 ?_)
  | (refine Go.gIxL ?_; first | refine Go.ixL0 ?_ | refine Go.ixL1 ?_ | refine Go.ixL2 ?_ | refine Go.ixL3 ?_ | refine Go.ixL4 ?_ | refine Go.ixL5 ?_ | refine Go.ixL6 ?_ | refine Go.ixL7 ?_)
  | (refine Go.gAug ?_; first | refine Go.aug0 ?_ | refine Go.aug1 ?_ | refine Go.aug2 ?_ | refine Go.aug3 ?_ | refine Go.aug4 ?_ | refine Go.aug5 ?_ | refine Go.aug6 ?_ | refine Go.aug7 ?_ | refine Go.aug8 ?_ | refine Go.aug9 ?_ | refine Go.aug10 ?_ | refine Go.aug11 ?_ | refine Go.aug12 ?_ | refine Go.aug13 ?_ | refine Go.aug14 ?_ | refine Go.aug15 ?_ | refine Go.aug16 ?_ | refine Go.aug17 ?_ | refine Go.aug18 ?_ | refine Go.aug19 ?_ | refine Go.aug20 ?_ | refine Go.aug21 ?_ | refine Go.aug22 ?_ | refine Go.aug23 ?_)
  | (refine Go.gStar ?_; first | refine Go.startup0 ?_ | refine Go.starlst0 ?_ | refine Go.startup1 ?_ | refine Go.starlst1 ?_ | refine Go.startup2 ?_ | refine Go.starlst2 ?_ | refine Go.startup3 ?_ | refine Go.starlst3 ?_ | refine Go.startup4 ?_ | refine Go.starlst4 ?_ | refine Go.startup_2 ?_ | refine Go.starlst_2 ?_ | refine Go.startup_3 ?_ | refine Go.starlst_3 ?_ | refine Go.startup_4 ?_ | refine Go.starlst_4 ?_)
  | refine Go.slfT1 ?_ | refine Go.sltT1 ?_ | refine Go.slfL1 ?_ | refine Go.sltL1 ?_ | refine Go.slfT2 ?_ | refine Go.sltT2 ?_ | refine Go.slfL2 ?_ | refine Go.sltL2 ?_ | refine Go.slfT3 ?_ | refine Go.sltT3 ?_ | refine Go.slfL3 ?_ | refine Go.sltL3 ?_ | refine Go.slfT4 ?_ | refine Go.sltT4 ?_ | refine Go.slfL4 ?_ | refine Go.sltL4 ?_
  | (refine Go.gUns ?_; first | refine Go.uns0 ?_ | refine Go.uns1 ?_ | refine Go.uns2 ?_ | refine Go.uns3 ?_ | refine Go.uns4 ?_ | refine Go.uns5 ?_ | refine Go.uns6 ?_ | refine Go.uns7 ?_ | refine Go.uns8 ?_ | refine Go.uns9 ?_ | refine Go.uns10 ?_ | refine Go.uns11 ?_ | refine Go.uns12 ?_ | refine Go.uns13 ?_ | refine Go.uns14 ?_ | refine Go.uns15 ?_ | refine Go.uns16 ?_ | refine Go.uns17 ?_ | refine Go.uns18 ?_ | refine Go.uns19 ?_ | refine Go.uns20 ?_ | refine Go.uns21 ?_ | refine Go.uns22 ?_ | refine Go.uns23 ?_)
  | refine Go.entup0 ?_ | refine Go.enlst0 ?_ | refine Go.entup1 ?_ | refine Go.enlst1 ?_ | refine Go.entup2 ?_ | refine Go.enlst2 ?_ | refine Go.entup3 ?_ | refine Go.enlst3 ?_ | refine Go.entup4 ?_ | refine Go.enlst4 ?_ | refine Go.entup5 ?_ | refine Go.enlst5 ?_ | refine Go.entup6 ?_ | refine Go.enlst6 ?_)))
local macro_rules | `(tactic| walk_at "bl1") => `(tactic| first | ((with_reducible refine Go.gEqS ?_); (first | refine Go.eqS (b := true) ⟨rfl, by decide +kernel⟩ ⟨rfl, by decide +kernel⟩ rfl ?_ | refine Go.eqS (b := false) ⟨rfl, by decide +kernel⟩ ⟨rfl, by decide +kernel⟩ rfl ?_)) | ((with_reducible refine Go.gNeS ?_); (first | refine Go.neS (b := true) ⟨rfl, by decide +kernel⟩ ⟨rfl, by decide +kernel⟩ rfl ?_ | refine Go.neS (b := false) ⟨rfl, by decide +kernel⟩ ⟨rfl, by decide +kernel⟩ rfl ?_)) | walk_at "bl0" | ((with_reducible refine Go.gAll ?_); (refine Go.allB (by rfl) ?_)) | ((with_reducible refine Go.gIxT ?_); (refine Go.ixT (by rfl) ?_)) | ((with_reducible refine Go.gIxL ?_); (refine Go.ixL (by rfl) ?_)))
local macro_rules | `(tactic| walk_at "bl") => `(tactic| (repeat walk_at "bl1"))
/-! ### points, things, faces -/
abbrev P2 := Int × Int
abbrev pt (p : P2) : D := .tup [.int p.1, .int p.2]
inductive Th where
  | spot (p : P2)
  | cord (p q : P2)
  | bow (c p q : P2)
inductive Fc where
  | side (a b : P2)
  | round (c : P2) (r : Int) (f l : P2)
def thD : Th → D
  | .spot p => .tup [.str "spot", pt p]
  | .cord p q => .tup [.str "cord", pt p, pt q]
  | .bow c p q => .tup [.str "bow", pt c, pt p, pt q]
def fcD : Fc → D
  | .side a b => .tup [.str "side", pt a, pt b]
  | .round c r f l => .tup [.str "round", pt c, .int r, pt f, pt l]
def Bd (p : P2) : Prop := p.1.natAbs ≤ 1000 ∧ p.2.natAbs ≤ 1000
def dif (a b : P2) : P2 := (a.1 - b.1, a.2 - b.2)
def dot (a b : P2) : Int := a.1 * b.1 + a.2 * b.2
def crs (a b : P2) : Int := a.1 * b.2 - a.2 * b.1
def far (a b : P2) : Int := dot (dif a b) (dif a b)
def Whole (n : Int) : Prop := ∃ r : Int, 0 ≤ r ∧ n = r * r
structure BowOk (c p q : P2) : Prop where
  ne : p ≠ q
  eq : far c p = far c q
  wr : Whole (far c p)
  wd : Whole (far p q)
  tn : 0 ≤ crs (dif p c) (dif q c)
def GoodTh : Th → Prop
  | .spot p => Bd p
  | .cord p q => Bd p ∧ Bd q ∧ p ≠ q ∧ Whole (far p q)
  | .bow c p q => Bd c ∧ Bd p ∧ Bd q ∧ BowOk c p q
/-- a direction in lowest terms -/
def low (d : P2) : P2 := (d.1 / (Int.gcd d.1 d.2 : Int), d.2 / (Int.gcd d.1 d.2 : Int))
def outw (a b : P2) : P2 := low ((dif b a).2, 0 - (dif b a).1)
def facesL : Th → List Fc
  | .spot p => [.round p 0 (1, 0) (1, 0)]
  | .cord p q => [.side p q, .round q 0 (outw p q) (outw q p), .side q p, .round p 0 (outw q p) (outw p q)]
  | .bow c p q => [.round c (isq (far c p).toNat) (low (dif p c)) (low (dif q c)), .round q 0 (low (dif q c)) (outw q p), .side q p, .round p 0 (outw q p) (low (dif p c))]
theorem sm_of_le {n : Nat} {i : Int} (h : i.natAbs ≤ 1000) (hn : 10 ≤ n) : sm n i := (show sm 10 i by unfold sm; omega).mono hn
theorem common2_spec {d : P2} {n : Nat} {S : Sto} {Q : DK} {E : EK} (h1 : sm n d.1) (h2 : sm n d.2) (k : Q (.int (Int.gcd d.1 d.2)) S) : m_common [.int d.1, .int d.2] S Q E := common_spec h1 h2 k
theorem gcd_pos' {d : P2} (h : d ≠ (0, 0)) : (0 : Int) < Int.gcd d.1 d.2 := by
  have : Int.gcd d.1 d.2 ≠ 0 := by
    intro z
    obtain ⟨a, b⟩ := Int.gcd_eq_zero_iff.mp z
    exact h (Prod.ext a b)
  omega
theorem lowest_spec {d : P2} {n : Nat} {S : Sto} {Q : DK} {E : EK} (h : d ≠ (0, 0)) (h1 : sm n d.1) (h2 : sm n d.2) (hn : n ≤ 4000) (k : Q (pt (low d)) S) : m_lowest [pt d] S Q E := by
  refine e_lowest ?_
  unfold t_lowest
  walk_at "bl"
  refine common2_spec h1 h2 ?_
  walk_at "bl"
  have g := gcd_pos' h
  have gs : sm n (Int.gcd d.1 d.2) := by
    rcases Int.lt_trichotomy d.1 0 with z | z | z
    · have := Int.gcd_le_natAbs_left (a := d.1) (b := d.2) (by omega); unfold sm at *; omega
    · have : d.2 ≠ 0 := fun z2 => h (Prod.ext z z2)
      have := Int.gcd_le_natAbs_right (a := d.1) (b := d.2) (by omega); unfold sm at *; omega
    · have := Int.gcd_le_natAbs_left (a := d.1) (b := d.2) (by omega); unfold sm at *; omega
  have hd : CDiv' (Int.gcd d.1 d.2) := gs.cdiv (by omega) (by omega)
  refine Go.div hd ?_
  walk_at "bl"
  refine Go.div hd ?_
  walk_at "bl"
  rw [Int.fdiv_eq_ediv_of_nonneg _ (by omega), Int.fdiv_eq_ediv_of_nonneg _ (by omega)]
  exact k
theorem step_spec {a b : P2} {S : Sto} {Q : DK} {E : EK} (k : Q (pt (dif a b)) S) : m_step_from [pt a, pt b] S Q E := by
  refine e_step_from ?_
  unfold t_step_from
  walk_at "bl"
  exact k
theorem sm_dif {a b : P2} (ha : Bd a) (hb : Bd b) : sm 12 (dif a b).1 ∧ sm 12 (dif a b).2 := by
  obtain ⟨a1, a2⟩ := ha
  obtain ⟨b1, b2⟩ := hb
  unfold dif sm
  exact ⟨by show (a.1 - b.1).natAbs < _; omega, by show (a.2 - b.2).natAbs < _; omega⟩
theorem dif_ne {a b : P2} (h : a ≠ b) : dif a b ≠ (0, 0) := fun z => h (by
  unfold dif at z
  have h1 := congrArg Prod.fst z
  have h2 := congrArg Prod.snd z
  dsimp only at h1 h2
  exact Prod.ext (by omega) (by omega))
theorem outward_spec {a b : P2} {S : Sto} {Q : DK} {E : EK} (h : a ≠ b) (ha : Bd a) (hb : Bd b) (k : Q (pt (outw a b)) S) : m_outward [pt a, pt b] S Q E := by
  refine e_outward ?_
  unfold t_outward
  walk_at "bl"
  refine step_spec ?_
  walk_at "bl"
  obtain ⟨s1, s2⟩ := sm_dif hb ha
  refine lowest_spec (d := ((dif b a).2, 0 - (dif b a).1)) (fun z => dif_ne (Ne.symm h) (Prod.ext ?_ (congrArg Prod.fst z))) s2 (by unfold sm at *; show (0 - (dif b a).1).natAbs < _; omega) (by decide : 12 ≤ 4000) ?_
  · have := congrArg Prod.snd z
    dsimp only at this
    show (dif b a).1 = 0
    omega
  · exact k
theorem far_eq (a b : P2) : far a b = (a.1 - b.1) * (a.1 - b.1) + (a.2 - b.2) * (a.2 - b.2) := rfl
theorem sm_far {a b : P2} (ha : Bd a) (hb : Bd b) : sm 25 (far a b) := by
  obtain ⟨s1, s2⟩ := sm_dif ha hb
  exact ((s1.mul s1).add (s2.mul s2)).mono (by decide)
theorem far_nonneg (a b : P2) : 0 ≤ far a b := by
  have h : ∀ x : Int, 0 ≤ x * x := fun x => by
    rcases Int.le_total 0 x with z | z
    · exact Int.mul_nonneg z z
    · exact Int.mul_nonneg_of_nonpos_of_nonpos z z
  rw [far_eq]
  exact Int.add_nonneg (h _) (h _)
theorem sq0 {x : Int} (h : x * x = 0) : x = 0 := by
  rcases Int.mul_eq_zero.mp h with z | z <;> exact z
theorem far_zero {a b : P2} (h : far a b = 0) : a = b := by
  rw [far_eq] at h
  have h1 : ∀ x : Int, 0 ≤ x * x := fun x => by
    rcases Int.le_total 0 x with z | z
    · exact Int.mul_nonneg z z
    · exact Int.mul_nonneg_of_nonpos_of_nonpos z z
  have a1 := h1 (a.1 - b.1)
  have a2 := h1 (a.2 - b.2)
  have b1 := sq0 (x := a.1 - b.1) (by omega)
  have b2 := sq0 (x := a.2 - b.2) (by omega)
  exact Prod.ext (by omega) (by omega)
theorem far_self (a : P2) : far a a = 0 := by
  rw [far_eq]
  simp
theorem BowOk.np {c p q : P2} (h : BowOk c p q) : p ≠ c ∧ q ≠ c := by
  have e := h.eq
  refine ⟨fun z => ?_, fun z => ?_⟩
  · rw [z, far_self] at e
    exact h.ne (z.trans (far_zero e.symm))
  · rw [z, far_self] at e
    exact h.ne ((far_zero e).symm.trans z.symm)
theorem far_square_spec {a b : P2} {S : Sto} {Q : DK} {E : EK} (ha : Bd a) (hb : Bd b) (k : Q (.int (far a b)) S) : m_far_square [pt a, pt b] S Q E := by
  refine e_far_square ?_
  unfold t_far_square
  obtain ⟨s1, s2⟩ := sm_dif ha hb
  walk_at "bl"
  refine Go.pow2 (n := 12) s1 (by decide) ?_
  walk_at "bl"
  refine Go.pow2 (n := 12) s2 (by decide) ?_
  walk_at "bl"
  exact k
theorem whole_pos {S : Sto} {Q : DK} {E : EK} {n : Int} (hn : 0 ≤ n) (hs : sm 25 n) (k : Q (.int (isq n.toNat)) S) : m_whole_root [.int n] S Q E := whole_root_spec hn hs (by decide) k
def fcsD (t : Th) : D := .tup ((facesL t).map fcD)
theorem faces_spec {t : Th} {S : Sto} {Q : DK} {E : EK} (h : GoodTh t) (k : Q (fcsD t) S) : m_faces [thD t] S Q E := by
  refine e_faces ?_
  unfold t_faces
  cases t with
  | spot p =>
    unfold thD
    walk_at "bl"
    exact k
  | cord p q =>
    obtain ⟨hp, hq, hne, hw⟩ := h
    unfold thD
    walk_at "bl"
    refine outward_spec (Ne.symm hne) hq hp ?_
    walk_at "bl"
    refine outward_spec hne hp hq ?_
    walk_at "bl"
    exact k
  | bow c p q =>
    obtain ⟨hc, hp, hq, hb⟩ := h
    obtain ⟨np, nq⟩ := hb.np
    unfold thD
    walk_at "bl"
    refine outward_spec (Ne.symm hb.ne) hq hp ?_
    walk_at "bl"
    refine step_spec ?_
    walk_at "bl"
    obtain ⟨s1, s2⟩ := sm_dif hp hc
    refine lowest_spec (dif_ne np) s1 s2 (by decide) ?_
    walk_at "bl"
    refine step_spec ?_
    walk_at "bl"
    obtain ⟨s1, s2⟩ := sm_dif hq hc
    refine lowest_spec (dif_ne nq) s1 s2 (by decide) ?_
    walk_at "bl"
    refine far_square_spec hc hp ?_
    walk_at "bl"
    refine whole_pos (far_nonneg c p) (sm_far hc hp) ?_
    walk_at "bl"
    exact k
/-! the law's faces -/
end Lb

namespace Lb
open PySem PySem.Spec PyProof.Rows L2 Bl
local macro_rules | `(tactic| walk_at "bl0") => `(tactic| (with_reducible (first
  | (refine Go.gVr ?_; first | refine Go.vr0 ?_ | refine Go.vr1 ?_ | refine Go.vr2 ?_ | refine Go.vr3 ?_ | refine Go.vr4 ?_ | refine Go.vr5 ?_ | refine Go.vr6 ?_ | refine Go.vr7 ?_ | refine Go.vr8 ?_ | refine Go.vr9 ?_ | refine Go.vr10 ?_ | refine Go.vr11 ?_ | refine Go.vr12 ?_ | refine Go.vr13 ?_ | refine Go.vr14 ?_ | refine Go.vr15 ?_ | refine Go.vr16 ?_ | refine Go.vr17 ?_ | refine Go.vr18 ?_ | refine Go.vr19 ?_ | refine Go.vr20 ?_ | refine Go.vr21 ?_ | refine Go.vr22 ?_ | refine Go.vr23 ?_)
  | refine Go.seq ?_
  | refine Go.nx' ?_
  | refine Go.ret ?_
  | refine Go.if' ?_
  | refine Go.asg ?_
  | refine Go.par ?_
  | refine Go.drop ?_
  | refine Go.brk ?_
  | refine Go.cnt ?_
  | refine Go.raise ?_
  | refine Go.thru ?_
  | refine Go.tryAs ?_
  | refine Go.for' ?_
  | refine Go.sub ?_
  | refine Go.retN ?_
  | refine Go.par_cons ?_
  | refine Go.par_nil ?_
  | refine Go.cn' ?_
  | refine Go.two ?_
  | refine Go.nil ?_
  | refine Go.cons ?_
  | refine Go.tup ?_
  | refine Go.lst ?_
  | refine Go.lstR ?_
  | refine Go.tbl' ?_
  | refine Go.tblK' ?_
  | refine Go.ttr' ?_
  | refine Go.truB ?_
  | refine Go.truI ?_
  | refine Go.truN ?_
  | refine Go.and' ?_
  | refine Go.or' ?_
  | refine Go.not' ?_
  | refine Go.vOf' ?_
  | refine Go.vNot' ?_
  | refine Go.eIf' ?_
  | refine Go.ifT ?_
  | refine Go.ifF ?_
  | refine Go.ifN ?_
  | refine Go.add ?_
  | refine Go.sub' ?_
  | refine Go.lt ?_
  | refine Go.le ?_
  | refine Go.gt ?_
  | refine Go.ge ?_
  | refine Go.eqI ?_
  | refine Go.neI ?_
  | refine Go.is' ?_
  | refine Go.isNot' ?_
  | refine Go.chain ?_
  | refine Go.dB' ?_
  | refine Go.neg ?_
  | refine Go.neg' ?_
  | refine Go.abs' ?_
  | refine Go.lenT ?_
  | refine Go.lenL ?_
  | refine Go.max' ?_
  | refine Go.min' ?_
  | refine Go.intI ?_
  | refine Go.intB ?_
  | refine Go.tupL ?_
  | refine Go.tupT ?_
  | refine Go.isi ?_
  | refine Go.call ?_
  | refine Go.iVal' ?_
  | refine Go.iValT ?_
  | refine Go.iValL ?_
  | refine Go.r1 ?_
  | refine Go.r2 ?_
  | refine Go.star ?_
  | refine Go.l_cons ?_
  | refine Go.l_nil ?_
  | refine Go.enum' ?_
  | refine Go.rev' ?_
  | refine Go.zip' ?_
  | refine Go.wipe_nil ?_
  | refine Go.wipe_cons ?_
  | refine Go.iadd ?_
  | refine Go.sl ?_
  | refine Go.oN ?_
  | refine Go.oS ?_
  | refine Go.osK' ?_
  | refine Go.getL ?_
  | refine Go.lc ?_
  | refine Go.lcR ?_
  | refine Go.lg_nil ?_
  | refine Go.lg_cons ?_
  | refine Go.yes ?_
  | refine Go.for_nil ?_
  | refine Go.for_cons ?_
  | refine Go.revT ?_
  | refine Go.revL ?_
  | refine Go.zipT ?_
  | refine Go.zipL ?_
  | refine Go.tupK' rfl ?_
  | refine Go.lstK' rfl ?_
  | refine Go.callK' rfl rfl ?_
  | refine Go.lcL rfl ?_
  | refine Go.getLL' rfl ?_
  | refine Go.addT rfl ?_
  | (refine Go.gAsg ?_; first | refine Go.set0 ?_ | refine Go.set1 ?_ | refine Go.set2 ?_ | refine Go.set3 ?_ | refine Go.set4 ?_ | refine Go.set5 ?_ | refine Go.set6 ?_ | refine Go.set7 ?_ | refine Go.set8 ?_ | refine Go.set9 ?_ | refine Go.set10 ?_ | refine Go.set11 ?_ | refine Go.set12 ?_ | refine Go.set13 ?_ | refine Go.set14 ?_ | refine Go.set15 ?_ | refine Go.set16 ?_ | refine Go.set17 ?_ | refine Go.set18 ?_ | refine Go.set19 ?_ | refine Go.set20 ?_ | refine Go.set21 ?_ | refine Go.set22 ?_ | refine Go.set23 ?_ | refine Go.tp_cons ?_ | refine Go.tp_nil ?_)
  | (refine Go.gIxT ?_; first | refine Go.ixT0 ?_ | refine Go.ixT1 ?_ | refine Go.ixT2 ?_ | refine Go.ixT3 ?_ | refine Go.ixT4 ?_ | refine Go.ixT5 ?_ | refine Go.ixT6 ?_ | refine Go.ixT7 ?_)
  | (refine Go.gIxL ?_; first | refine Go.ixL0 ?_ | refine Go.ixL1 ?_ | refine Go.ixL2 ?_ | refine Go.ixL3 ?_ | refine Go.ixL4 ?_ | refine Go.ixL5 ?_ | refine Go.ixL6 ?_ | refine Go.ixL7 ?_)
  | (refine Go.gAug ?_; first | refine Go.aug0 ?_ | refine Go.aug1 ?_ | refine Go.aug2 ?_ | refine Go.aug3 ?_ | refine Go.aug4 ?_ | refine Go.aug5 ?_ | refine Go.aug6 ?_ | refine Go.aug7 ?_ | refine Go.aug8 ?_ | refine Go.aug9 ?_ | refine Go.aug10 ?_ | refine Go.aug11 ?_ | refine Go.aug12 ?_ | refine Go.aug13 ?_ | refine Go.aug14 ?_ | refine Go.aug15 ?_ | refine Go.aug16 ?_ | refine Go.aug17 ?_ | refine Go.aug18 ?_ | refine Go.aug19 ?_ | refine Go.aug20 ?_ | refine Go.aug21 ?_ | refine Go.aug22 ?_ | refine Go.aug23 ?_)
  | (refine Go.gStar ?_; first | refine Go.startup0 ?_ | refine Go.starlst0 ?_ | refine Go.startup1 ?_ | refine Go.starlst1 ?_ | refine Go.startup2 ?_ | refine Go.starlst2 ?_ | refine Go.startup3 ?_ | refine Go.starlst3 ?_ | refine Go.startup4 ?_ | refine Go.starlst4 ?_ | refine Go.startup_2 ?_ | refine Go.starlst_2 ?_ | refine Go.startup_3 ?_ | refine Go.starlst_3 ?_ | refine Go.startup_4 ?_ | refine Go.starlst_4 ?_)
  | refine Go.slfT1 ?_ | refine Go.sltT1 ?_ | refine Go.slfL1 ?_ | refine Go.sltL1 ?_ | refine Go.slfT2 ?_ | refine Go.sltT2 ?_ | refine Go.slfL2 ?_ | refine Go.sltL2 ?_ | refine Go.slfT3 ?_ | refine Go.sltT3 ?_ | refine Go.slfL3 ?_ | refine Go.sltL3 ?_ | refine Go.slfT4 ?_ | refine Go.sltT4 ?_ | refine Go.slfL4 ?_ | refine Go.sltL4 ?_
  | (refine Go.gUns ?_; first | refine Go.uns0 ?_ | refine Go.uns1 ?_ | refine Go.uns2 ?_ | refine Go.uns3 ?_ | refine Go.uns4 ?_ | refine Go.uns5 ?_ | refine Go.uns6 ?_ | refine Go.uns7 ?_ | refine Go.uns8 ?_ | refine Go.uns9 ?_ | refine Go.uns10 ?_ | refine Go.uns11 ?_ | refine Go.uns12 ?_ | refine Go.uns13 ?_ | refine Go.uns14 ?_ | refine Go.uns15 ?_ | refine Go.uns16 ?_ | refine Go.uns17 ?_ | refine Go.uns18 ?_ | refine Go.uns19 ?_ | refine Go.uns20 ?_ | refine Go.uns21 ?_ | refine Go.uns22 ?_ | refine Go.uns23 ?_)
  | refine Go.entup0 ?_ | refine Go.enlst0 ?_ | refine Go.entup1 ?_ | refine Go.enlst1 ?_ | refine Go.entup2 ?_ | refine Go.enlst2 ?_ | refine Go.entup3 ?_ | refine Go.enlst3 ?_ | refine Go.entup4 ?_ | refine Go.enlst4 ?_ | refine Go.entup5 ?_ | refine Go.enlst5 ?_ | refine Go.entup6 ?_ | refine Go.enlst6 ?_)))
local macro_rules | `(tactic| walk_at "bl1") => `(tactic| first | ((with_reducible refine Go.gEqS ?_); (first | refine Go.eqS (b := true) ⟨rfl, by decide +kernel⟩ ⟨rfl, by decide +kernel⟩ rfl ?_ | refine Go.eqS (b := false) ⟨rfl, by decide +kernel⟩ ⟨rfl, by decide +kernel⟩ rfl ?_)) | ((with_reducible refine Go.gNeS ?_); (first | refine Go.neS (b := true) ⟨rfl, by decide +kernel⟩ ⟨rfl, by decide +kernel⟩ rfl ?_ | refine Go.neS (b := false) ⟨rfl, by decide +kernel⟩ ⟨rfl, by decide +kernel⟩ rfl ?_)) | walk_at "bl0" | ((with_reducible refine Go.gAll ?_); (refine Go.allB (by rfl) ?_)) | ((with_reducible refine Go.gIxT ?_); (refine Go.ixT (by rfl) ?_)) | ((with_reducible refine Go.gIxL ?_); (refine Go.ixL (by rfl) ?_)))
local macro_rules | `(tactic| walk_at "bl") => `(tactic| (repeat walk_at "bl1"))
/-! ### the drawn things -/
theorem point_spec {a : Addr} {most : Int} {S : Sto} {Q : DK} {E : EK} (hb : Bg S a) (h0 : 0 ≤ most) (h1 : most ≤ 1000) (k : ∀ p S', p.1.natAbs ≤ most.natAbs → p.2.natAbs ≤ most.natAbs → Bg S' a → Fr S S' a → Q (pt p) S') : m_l_point [.ref a, .int most] S Q E := by
  refine e_l_point ?_
  unfold t_l_point
  have hm : sm 11 most := by unfold sm; omega
  have h2 : sm 9000 (2 * most + 1) := (show sm 12 (2 * most + 1) by unfold sm; omega).mono (by decide)
  walk_at "bl"
  refine Go.mul ((sm.of (n := 2) (by decide)).cmul hm (by decide)) ?_
  walk_at "bl"
  refine take_spec hb (by omega) h2 fun x S1 x0 x1 b1 f1 => ?_
  walk_at "bl"
  refine Go.mul ((sm.of (n := 2) (by decide)).cmul hm (by decide)) ?_
  walk_at "bl"
  refine take_spec b1 (by omega) h2 fun y S2 y0 y1 b2 f2 => ?_
  walk_at "bl"
  exact k (x - most, y - most) S2 (by show (x - most).natAbs ≤ _; omega) (by show (y - most).natAbs ≤ _; omega) b2 (f1.trans f2)
def rot : Nat → P2 → P2
  | 0, p => p
  | n + 1, p => (0 - (rot n p).2, (rot n p).1)
theorem turned_spec {p : P2} {n : Nat} {S : Sto} {Q : DK} {E : EK} (hn : n < 1000) (k : Q (pt (rot n p)) S) : m_l_turned [pt p, .int n] S Q E := by
  refine e_l_turned ?_
  unfold t_l_turned
  walk_at "bl"
  refine Go.r1' rfl (by omega) ?_
  refine forD_rng (fun j e s => ∃ o, e = [some (pt p), some (.int n), some (.int (rot j p).1), some (.int (rot j p).2), o] ∧ s = S) ⟨_, rfl, rfl⟩ ?_ ?_
  · rintro j e s hj ⟨o, rfl, rfl⟩
    refine ⟨_, rfl, fun N' hnx _ _ _ _ => ?_⟩
    show sPar _ _ [some (pt p), some (.int n), some (.int (rot j p).1), some (.int (rot j p).2), some (.int (0 + j))] _ _
    walk_at "bl"
    exact hnx _ _ ⟨_, rfl, rfl⟩
  · rintro e s ⟨o, rfl, rfl⟩
    walk_at "bl"
    exact k
def plus2 (a b : P2) : P2 := (a.1 + b.1, a.2 + b.2)
theorem added_spec {a b : P2} {S : Sto} {Q : DK} {E : EK} (k : Q (pt (plus2 a b)) S) : m_l_added [pt a, pt b] S Q E := by
  refine e_l_added ?_
  unfold t_l_added
  walk_at "bl"
  exact k
theorem rot_dot (u v : P2) : ∀ n : Nat, dot (rot n u) (rot n v) = dot u v
  | 0 => rfl
  | n + 1 => by
    rw [← rot_dot u v n]
    unfold dot
    show (0 - (rot n u).2) * (0 - (rot n v).2) + (rot n u).1 * (rot n v).1 = _
    grind
theorem rot_crs (u v : P2) : ∀ n : Nat, crs (rot n u) (rot n v) = crs u v
  | 0 => rfl
  | n + 1 => by
    rw [← rot_crs u v n]
    unfold crs
    show (0 - (rot n u).2) * (rot n v).1 - (rot n u).1 * (0 - (rot n v).2) = _
    grind
theorem far_plus (b u v : P2) : far (plus2 b u) (plus2 b v) = dot u u - 2 * dot u v + dot v v := by
  unfold far dif dot plus2
  dsimp only
  grind
theorem far_plus0 (b u : P2) : far b (plus2 b u) = dot u u := by
  unfold far dif dot plus2
  dsimp only
  grind
theorem dif_plus0 (b u : P2) : dif (plus2 b u) b = u := by
  unfold dif plus2
  dsimp only
  exact Prod.ext (by omega) (by omega)
theorem BowOk.mk' {b u v : P2} {n : Nat} {r d : Int} (h1 : dot u u = r * r) (h2 : dot v v = r * r) (hr : 0 ≤ r) (h3 : dot u u - 2 * dot u v + dot v v = d * d) (hd : 0 < d) (h4 : 0 ≤ crs u v) : BowOk b (plus2 b (rot n u)) (plus2 b (rot n v)) := by
  have e : far (plus2 b (rot n u)) (plus2 b (rot n v)) = d * d := by rw [far_plus, rot_dot, rot_dot, rot_dot, h3]
  refine ⟨fun z => ?_, ?_, ⟨r, hr, ?_⟩, ⟨d, by omega, e⟩, ?_⟩
  · rw [z, far_self] at e
    have := Int.mul_pos hd hd
    omega
  · rw [far_plus0, far_plus0, rot_dot, rot_dot, h1, h2]
  · rw [far_plus0, rot_dot, h1]
  · rw [dif_plus0, dif_plus0, rot_crs]
    exact h4
theorem rot_bd {u : P2} {m : Nat} (h1 : u.1.natAbs ≤ m) (h2 : u.2.natAbs ≤ m) : ∀ n : Nat, (rot n u).1.natAbs ≤ m ∧ (rot n u).2.natAbs ≤ m
  | 0 => ⟨h1, h2⟩
  | n + 1 => by
    obtain ⟨a, b⟩ := rot_bd h1 h2 n
    exact ⟨by show (0 - (rot n u).2).natAbs ≤ m; omega, a⟩
def PIn (m : Nat) (p : P2) : Prop := p.1.natAbs ≤ m ∧ p.2.natAbs ≤ m
def TIn (m : Nat) : Th → Prop
  | .spot p => PIn m p
  | .cord p q => PIn m p ∧ PIn m q
  | .bow c p q => PIn m c ∧ PIn m p ∧ PIn m q
theorem PIn.bd {m : Nat} {p : P2} (h : PIn m p) (hm : m ≤ 1000) : Bd p := ⟨Nat.le_trans h.1 hm, Nat.le_trans h.2 hm⟩
theorem plus_in {b u : P2} {m n : Nat} (h : PIn m b) (h' : PIn n u) : PIn (m + n) (plus2 b u) := by
  unfold PIn plus2 at *
  dsimp only
  omega
/-- how a thing is drawn -/
structure Shape (x y r : Int) : Prop where
  e : x * x + y * y = r * r
  x0 : 0 < x
  x1 : x ≤ 15
  y0 : 0 ≤ y
  y1 : y ≤ 15
  r0 : 0 < r
theorem shapes {d : Int} (h0 : 0 ≤ d) (h1 : d < 8) : ∃ x y r : Int, Shape x y r ∧ atI [pt (1, 0), pt (3, 4), pt (4, 3), pt (5, 12), pt (12, 5), pt (8, 15), pt (2, 0), pt (6, 8)] d = some (pt (x, y)) := by
  rcases (by omega : d = (0 : Nat) ∨ d = (1 : Nat) ∨ d = (2 : Nat) ∨ d = (3 : Nat) ∨ d = (4 : Nat) ∨ d = (5 : Nat) ∨ d = (6 : Nat) ∨ d = (7 : Nat)) with h | h | h | h | h | h | h | h <;> subst h
  · exact ⟨1, 0, 1, ⟨by decide, by decide, by decide, by decide, by decide, by decide⟩, atI_nat rfl⟩
  · exact ⟨3, 4, 5, ⟨by decide, by decide, by decide, by decide, by decide, by decide⟩, atI_nat rfl⟩
  · exact ⟨4, 3, 5, ⟨by decide, by decide, by decide, by decide, by decide, by decide⟩, atI_nat rfl⟩
  · exact ⟨5, 12, 13, ⟨by decide, by decide, by decide, by decide, by decide, by decide⟩, atI_nat rfl⟩
  · exact ⟨12, 5, 13, ⟨by decide, by decide, by decide, by decide, by decide, by decide⟩, atI_nat rfl⟩
  · exact ⟨8, 15, 17, ⟨by decide, by decide, by decide, by decide, by decide, by decide⟩, atI_nat rfl⟩
  · exact ⟨2, 0, 2, ⟨by decide, by decide, by decide, by decide, by decide, by decide⟩, atI_nat rfl⟩
  · exact ⟨6, 8, 10, ⟨by decide, by decide, by decide, by decide, by decide, by decide⟩, atI_nat rfl⟩
theorem onethree {d : Int} (h0 : 0 ≤ d) (h1 : d < 2) : ∃ m : Int, 0 < m ∧ m ≤ 3 ∧ atI [D.int 1, .int 3] d = some (.int m) := by
  rcases (by omega : d = 0 ∨ d = 1) with h | h <;> subst h
  · exact ⟨1, by decide, by decide, atI_0⟩
  · exact ⟨3, by decide, by decide, atI_1⟩
theorem thing_spec {a : Addr} {most : Int} {S : Sto} {Q : DK} {E : EK} (hb : Bg S a) (hm0 : 0 ≤ most) (hm1 : most ≤ 400) (k : ∀ t S', GoodTh t → TIn (most.toNat + 75) t → Bg S' a → Fr S S' a → Q (thD t) S') : m_l_thing [.ref a, .int most] S Q E := by
  refine e_l_thing ?_
  unfold t_l_thing
  walk_at "bl"
  refine take_spec hb (by omega) (sm_k (by decide)) fun kind S1 k0 k1 b1 f1 => ?_
  walk_at "bl"
  refine point_spec b1 hm0 (by omega) fun base S2 p1 p2 b2 f2 => ?_
  have pb : PIn most.toNat base := ⟨by omega, by omega⟩
  have pb' : PIn (most.toNat + 75) base := ⟨by omega, by omega⟩
  have hbase : Bd base := pb.bd (by omega)
  have f12 := f1.trans f2
  walk_at "bl"
  refine Go.ifD (fun hk => ?_) fun hk => ?_
  · walk_at "bl"
    exact k (.spot base) S2 hbase pb' b2 f12
  walk_at "bl"
  refine take_spec b2 (by omega) (sm_k (by decide)) fun d S3 d0 d1 b3 f3 => ?_
  obtain ⟨x, y, r, sh, ed⟩ := shapes d0 d1
  refine Go.ixL ed ?_
  walk_at "bl"
  refine take_spec b3 (by omega) (sm_k (by decide)) fun often S4 o0 o1 b4 f4 => ?_
  walk_at "bl"
  refine take_spec b4 (by omega) (sm_k (by decide)) fun u S5 u0 u1 b5 f5 => ?_
  obtain ⟨m, m0, m1, em⟩ := onethree u0 u1
  refine Go.ixL em ?_
  walk_at "bl"
  refine take_spec b5 m0 ((show sm 8 m by unfold sm; omega).mono (by decide)) fun sz S6 s0 s1 b6 f6 => ?_
  walk_at "bl"
  have f16 := (((f12.trans f3).trans f4).trans f5).trans f6
  have hx := sh.x0
  have hx1 := sh.x1
  have hy := sh.y0
  have hy1 := sh.y1
  have hr := sh.r0
  have he := sh.e
  generalize hs : 1 + sz = s at *
  have hs0 : 0 < s := by omega
  have hs3 : s ≤ 3 := by omega
  have ss : sm 4 s := by unfold sm; omega
  have sx : sm 5 x := by unfold sm; omega
  have sy : sm 5 y := by unfold sm; omega
  have ex : x * s ≤ 15 * 3 ∧ 0 < x * s := ⟨Int.mul_le_mul hx1 hs3 (by omega) (by omega), Int.mul_pos hx hs0⟩
  have ey : y * s ≤ 15 * 3 ∧ 0 ≤ y * s := ⟨Int.mul_le_mul hy1 hs3 (by omega) (by omega), Int.mul_nonneg hy (by omega)⟩
  have er : 0 < r * s := Int.mul_pos hr hs0
  obtain ⟨n, rfl⟩ : ∃ n : Nat, often = n := ⟨often.toNat, by omega⟩
  have hu : dot (x * s, y * s) (x * s, y * s) = (r * s) * (r * s) := by
    unfold dot
    dsimp only
    grind
  refine Go.mul (sx.cmul ss (by decide)) ?_
  walk_at "bl"
  refine Go.mul (sy.cmul ss (by decide)) ?_
  walk_at "bl"
  refine turned_spec (p := (x * s, y * s)) (by omega) ?_
  walk_at "bl"
  refine Go.ifD (fun hk2 => ?_) fun hk2 => ?_
  · walk_at "bl"
    refine added_spec ?_
    walk_at "bl"
    have hb2 := plus_in pb (rot_bd (u := (x * s, y * s)) (m := 75) (by show (x * s).natAbs ≤ _; omega) (by show (y * s).natAbs ≤ _; omega) n)
    refine k (.cord base (plus2 base (rot n (x * s, y * s)))) S6 ⟨hbase, hb2.bd (by omega), fun z => ?_, ⟨r * s, by omega, by rw [far_plus0, rot_dot, hu]⟩⟩ ⟨pb', hb2⟩ b6 f16
    have e := far_plus0 base (rot n (x * s, y * s))
    rw [rot_dot, hu, ← z, far_self] at e
    have := Int.mul_pos er er
    omega
  walk_at "bl"
  refine Go.mul (sx.cmul ss (by decide)) ?_
  walk_at "bl"
  refine Go.mul (sy.cmul ss (by decide)) ?_
  walk_at "bl"
  refine Go.mul (sx.cmul ss (by decide)) ?_
  walk_at "bl"
  refine Go.mul (sy.cmul ss (by decide)) ?_
  walk_at "bl"
  refine take_spec b6 (by omega) (sm_k (by decide)) fun way S7 w0 w1 b7 f7 => ?_
  have f17 := f16.trans f7
  -- both ends, by what was drawn
  have fin : ∀ (u v : P2) (R d : Int), dot u u = R * R → dot v v = R * R → 0 ≤ R → dot u u - 2 * dot u v + dot v v = d * d → 0 < d → 0 ≤ crs u v → u.1.natAbs ≤ 75 → u.2.natAbs ≤ 75 → v.1.natAbs ≤ 75 → v.2.natAbs ≤ 75 → GoodTh (.bow base (plus2 base (rot n u)) (plus2 base (rot n v))) ∧ TIn (most.toNat + 75) (.bow base (plus2 base (rot n u)) (plus2 base (rot n v))) :=
    fun u v R d h1 h2 h3 h4 h5 h6 c1 c2 c3 c4 => ⟨⟨hbase, (plus_in pb (rot_bd c1 c2 n)).bd (by omega), (plus_in pb (rot_bd c3 c4 n)).bd (by omega), .mk' h1 h2 h3 h4 h5 h6⟩, pb', plus_in pb (rot_bd c1 c2 n), plus_in pb (rot_bd c3 c4 n)⟩
  have half := fin (x * s, y * s) (0 - x * s, 0 - y * s) (r * s) (2 * (r * s)) hu (by unfold dot; dsimp only; grind) (by omega) (by unfold dot; dsimp only; grind) (by omega) (by unfold crs; dsimp only; grind) (by show (x * s).natAbs ≤ 75; omega) (by show (y * s).natAbs ≤ 75; omega) (by show (0 - x * s).natAbs ≤ 75; omega) (by show (0 - y * s).natAbs ≤ 75; omega)
  walk_at "bl"
  refine Go.ifD (fun hw => ?_) fun hw => ?_
  · walk_at "bl"
    refine turned_spec (p := (x * s, y * s)) (by omega) ?_
    walk_at "bl"
    refine added_spec ?_
    walk_at "bl"
    refine turned_spec (p := (0 - x * s, 0 - y * s)) (by omega) ?_
    walk_at "bl"
    refine added_spec ?_
    walk_at "bl"
    exact k _ S7 (half).1 (half).2 b7 f17
  walk_at "bl"
  refine Go.ifD (fun hy0 => ?_) fun hy0 => ?_
  · walk_at "bl"
    refine turned_spec (p := (x * s, y * s)) (by omega) ?_
    walk_at "bl"
    refine added_spec ?_
    walk_at "bl"
    refine turned_spec (p := (0 - x * s, 0 - y * s)) (by omega) ?_
    walk_at "bl"
    refine added_spec ?_
    walk_at "bl"
    exact k _ S7 (half).1 (half).2 b7 f17
  walk_at "bl"
  refine Go.ifD (fun hw2 => ?_) fun hw2 => ?_
  · walk_at "bl"
    refine Go.mul ((sm.of (n := 5) (by decide)).cmul ss (by decide)) ?_
    walk_at "bl"
    refine Go.mul ((sm.of (n := 5) (by decide)).cmul ss (by decide)) ?_
    walk_at "bl"
    refine Go.mul ((sm.of (n := 5) (by decide)).cmul ss (by decide)) ?_
    walk_at "bl"
    refine turned_spec (p := (25 * s, 0)) (by omega) ?_
    walk_at "bl"
    refine added_spec ?_
    walk_at "bl"
    refine turned_spec (p := (7 * s, 24 * s)) (by omega) ?_
    walk_at "bl"
    refine added_spec ?_
    walk_at "bl"
    exact k _ S7 (fin (25 * s, 0) (7 * s, 24 * s) (25 * s) (30 * s) (by unfold dot; dsimp only; grind) (by unfold dot; dsimp only; grind) (by omega) (by unfold dot; dsimp only; grind) (by omega) (by unfold crs; dsimp only; have := Int.mul_nonneg (show 0 ≤ s by omega) (show 0 ≤ s by omega); grind) (by show (25 * s).natAbs ≤ 75; omega) (by show (0 : Int).natAbs ≤ 75; omega) (by show (7 * s).natAbs ≤ 75; omega) (by show (24 * s).natAbs ≤ 75; omega)).1 (fin (25 * s, 0) (7 * s, 24 * s) (25 * s) (30 * s) (by unfold dot; dsimp only; grind) (by unfold dot; dsimp only; grind) (by omega) (by unfold dot; dsimp only; grind) (by omega) (by unfold crs; dsimp only; have := Int.mul_nonneg (show 0 ≤ s by omega) (show 0 ≤ s by omega); grind) (by show (25 * s).natAbs ≤ 75; omega) (by show (0 : Int).natAbs ≤ 75; omega) (by show (7 * s).natAbs ≤ 75; omega) (by show (24 * s).natAbs ≤ 75; omega)).2 b7 f17
  · walk_at "bl"
    refine turned_spec (p := (x * s, y * s)) (by omega) ?_
    walk_at "bl"
    refine added_spec ?_
    walk_at "bl"
    refine turned_spec (p := (0 - x * s, y * s)) (by omega) ?_
    walk_at "bl"
    refine added_spec ?_
    walk_at "bl"
    exact k _ S7 (fin (x * s, y * s) (0 - x * s, y * s) (r * s) (2 * (x * s)) hu (by unfold dot; dsimp only; grind) (by omega) (by unfold dot; dsimp only; grind) (by omega) (by unfold crs; dsimp only; have := Int.mul_nonneg (show 0 ≤ x * s by omega) ey.2; grind) (by show (x * s).natAbs ≤ 75; omega) (by show (y * s).natAbs ≤ 75; omega) (by show (0 - x * s).natAbs ≤ 75; omega) (by show (y * s).natAbs ≤ 75; omega)).1 (fin (x * s, y * s) (0 - x * s, y * s) (r * s) (2 * (x * s)) hu (by unfold dot; dsimp only; grind) (by omega) (by unfold dot; dsimp only; grind) (by omega) (by unfold crs; dsimp only; have := Int.mul_nonneg (show 0 ≤ x * s by omega) ey.2; grind) (by show (x * s).natAbs ≤ 75; omega) (by show (y * s).natAbs ≤ 75; omega) (by show (0 - x * s).natAbs ≤ 75; omega) (by show (y * s).natAbs ≤ 75; omega)).2 b7 f17
end Lb

namespace Lb
open PySem PySem.Spec PyProof.Rows L2 Bl
def t_cross_of : TSd := sRet (dTwo (dTwo (dTwo (vr 0) (cn (.int 0)) fIx) (dTwo (vr 1) (cn (.int 1)) fIx) fMul) (dTwo (dTwo (vr 0) (cn (.int 1)) fIx) (dTwo (vr 1) (cn (.int 0)) fIx) fMul) fSub)
def m_cross_of : TFd := fnD 2 2 t_cross_of
theorem e_cross_of {a0 a1 : D} {S : Sto} {Q : DK} {E : EK} (k : t_cross_of [some a0, some a1] S ⟨fun _ S1 => Q .non S1, Q, fun _ _ => False, fun _ _ => False, fun x _ S1 => E x S1⟩) : m_cross_of [a0, a1] S Q E := ⟨rfl, k⟩
def t_dot_of : TSd := sRet (dTwo (dTwo (dTwo (vr 0) (cn (.int 0)) fIx) (dTwo (vr 1) (cn (.int 0)) fIx) fMul) (dTwo (dTwo (vr 0) (cn (.int 1)) fIx) (dTwo (vr 1) (cn (.int 1)) fIx) fMul) fAdd)
def m_dot_of : TFd := fnD 2 2 t_dot_of
theorem e_dot_of {a0 a1 : D} {S : Sto} {Q : DK} {E : EK} (k : t_dot_of [some a0, some a1] S ⟨fun _ S1 => Q .non S1, Q, fun _ _ => False, fun _ _ => False, fun x _ S1 => E x S1⟩) : m_dot_of [a0, a1] S Q E := ⟨rfl, k⟩
def t_length_of : TSd := sRet (dCall m_whole_root 1 0 (fun ds _ => ds) (aCons (dCall m_dot_of 2 0 (fun ds _ => ds) (aCons (vr 0) (aCons (vr 0) (aNil))) aNil) (aNil)) aNil)
def m_length_of : TFd := fnD 1 1 t_length_of
theorem e_length_of {a0 : D} {S : Sto} {Q : DK} {E : EK} (k : t_length_of [some a0] S ⟨fun _ S1 => Q .non S1, Q, fun _ _ => False, fun _ _ => False, fun x _ S1 => E x S1⟩) : m_length_of [a0] S Q E := ⟨rfl, k⟩
end Lb

namespace Lb
open PySem PySem.Spec PyProof.Rows L2 Bl
local macro_rules | `(tactic| walk_at "bl0") => `(tactic| (with_reducible (first
  | (refine Go.gVr ?_; first | refine Go.vr0 ?_ | refine Go.vr1 ?_ | refine Go.vr2 ?_ | refine Go.vr3 ?_ | refine Go.vr4 ?_ | refine Go.vr5 ?_ | refine Go.vr6 ?_ | refine Go.vr7 ?_ | refine Go.vr8 ?_ | refine Go.vr9 ?_ | refine Go.vr10 ?_ | refine Go.vr11 ?_ | refine Go.vr12 ?_ | refine Go.vr13 ?_ | refine Go.vr14 ?_ | refine Go.vr15 ?_ | refine Go.vr16 ?_ | refine Go.vr17 ?_ | refine Go.vr18 ?_ | refine Go.vr19 ?_ | refine Go.vr20 ?_ | refine Go.vr21 ?_ | refine Go.vr22 ?_ | refine Go.vr23 ?_)
  | refine Go.seq ?_
  | refine Go.nx' ?_
  | refine Go.ret ?_
  | refine Go.if' ?_
  | refine Go.asg ?_
  | refine Go.par ?_
  | refine Go.drop ?_
  | refine Go.brk ?_
  | refine Go.cnt ?_
  | refine Go.raise ?_
  | refine Go.thru ?_
  | refine Go.tryAs ?_
  | refine Go.for' ?_
  | refine Go.sub ?_
  | refine Go.retN ?_
  | refine Go.par_cons ?_
  | refine Go.par_nil ?_
  | refine Go.cn' ?_
  | refine Go.two ?_
  | refine Go.nil ?_
  | refine Go.cons ?_
  | refine Go.tup ?_
  | refine Go.lst ?_
  | refine Go.lstR ?_
  | refine Go.tbl' ?_
  | refine Go.tblK' ?_
  | refine Go.ttr' ?_
  | refine Go.truB ?_
  | refine Go.truI ?_
  | refine Go.truN ?_
  | refine Go.and' ?_
  | refine Go.or' ?_
  | refine Go.not' ?_
  | refine Go.vOf' ?_
  | refine Go.vNot' ?_
  | refine Go.eIf' ?_
  | refine Go.ifT ?_
  | refine Go.ifF ?_
  | refine Go.ifN ?_
  | refine Go.add ?_
  | refine Go.sub' ?_
  | refine Go.lt ?_
  | refine Go.le ?_
  | refine Go.gt ?_
  | refine Go.ge ?_
  | refine Go.eqI ?_
  | refine Go.neI ?_
  | refine Go.is' ?_
  | refine Go.isNot' ?_
  | refine Go.chain ?_
  | refine Go.dB' ?_
  | refine Go.neg ?_
  | refine Go.neg' ?_
  | refine Go.abs' ?_
  | refine Go.lenT ?_
  | refine Go.lenL ?_
  | refine Go.max' ?_
  | refine Go.min' ?_
  | refine Go.intI ?_
  | refine Go.intB ?_
  | refine Go.tupL ?_
  | refine Go.tupT ?_
  | refine Go.isi ?_
  | refine Go.call ?_
  | refine Go.iVal' ?_
  | refine Go.iValT ?_
  | refine Go.iValL ?_
  | refine Go.r1 ?_
  | refine Go.r2 ?_
  | refine Go.star ?_
  | refine Go.l_cons ?_
  | refine Go.l_nil ?_
  | refine Go.enum' ?_
  | refine Go.rev' ?_
  | refine Go.zip' ?_
  | refine Go.wipe_nil ?_
  | refine Go.wipe_cons ?_
  | refine Go.iadd ?_
  | refine Go.sl ?_
  | refine Go.oN ?_
  | refine Go.oS ?_
  | refine Go.osK' ?_
  | refine Go.getL ?_
  | refine Go.lc ?_
  | refine Go.lcR ?_
  | refine Go.lg_nil ?_
  | refine Go.lg_cons ?_
  | refine Go.yes ?_
  | refine Go.for_nil ?_
  | refine Go.for_cons ?_
  | refine Go.revT ?_
  | refine Go.revL ?_
  | refine Go.zipT ?_
  | refine Go.zipL ?_
  | refine Go.tupK' rfl ?_
  | refine Go.lstK' rfl ?_
  | refine Go.callK' rfl rfl ?_
  | refine Go.lcL rfl ?_
  | refine Go.getLL' rfl ?_
  | refine Go.addT rfl ?_
  | (refine Go.gAsg ?_; first | refine Go.set0 ?_ | refine Go.set1 ?_ | refine Go.set2 ?_ | refine Go.set3 ?_ | refine Go.set4 ?_ | refine Go.set5 ?_ | refine Go.set6 ?_ | refine Go.set7 ?_ | refine Go.set8 ?_ | refine Go.set9 ?_ | refine Go.set10 ?_ | refine Go.set11 ?_ | refine Go.set12 ?_ | refine Go.set13 ?_ | refine Go.set14 ?_ | refine Go.set15 ?_ | refine Go.set16 ?_ | refine Go.set17 ?_ | refine Go.set18 ?_ | refine Go.set19 ?_ | refine Go.set20 ?_ | refine Go.set21 ?_ | refine Go.set22 ?_ | refine Go.set23 ?_ | refine Go.tp_cons ?_ | refine Go.tp_nil ?_)
  | (refine Go.gIxT ?_; first | refine Go.ixT0 ?_ | refine Go.ixT1 ?_ | refine Go.ixT2 ?_ | refine Go.ixT3 ?_ | refine Go.ixT4 ?_ | refine Go.ixT5 ?_ | refine Go.ixT6 ?_ | refine Go.ixT7 ?_)
  | (refine Go.gIxL ?_; first | refine Go.ixL0 ?_ | refine Go.ixL1 ?_ | refine Go.ixL2 ?_ | refine Go.ixL3 ?_ | refine Go.ixL4 ?_ | refine Go.ixL5 ?_ | refine Go.ixL6 ?_ | refine Go.ixL7 ?_)
  | (refine Go.gAug ?_; first | refine Go.aug0 ?_ | refine Go.aug1 ?_ | refine Go.aug2 ?_ | refine Go.aug3 ?_ | refine Go.aug4 ?_ | refine Go.aug5 ?_ | refine Go.aug6 ?_ | refine Go.aug7 ?_ | refine Go.aug8 ?_ | refine Go.aug9 ?_ | refine Go.aug10 ?_ | refine Go.aug11 ?_ | refine Go.aug12 ?_ | refine Go.aug13 ?_ | refine Go.aug14 ?_ | refine Go.aug15 ?_ | refine Go.aug16 ?_ | refine Go.aug17 ?_ | refine Go.aug18 ?_ | refine Go.aug19 ?_ | refine Go.aug20 ?_ | refine Go.aug21 ?_ | refine Go.aug22 ?_ | refine Go.aug23 ?_)
  | (refine Go.gStar ?_; first | refine Go.startup0 ?_ | refine Go.starlst0 ?_ | refine Go.startup1 ?_ | refine Go.starlst1 ?_ | refine Go.startup2 ?_ | refine Go.starlst2 ?_ | refine Go.startup3 ?_ | refine Go.starlst3 ?_ | refine Go.startup4 ?_ | refine Go.starlst4 ?_ | refine Go.startup_2 ?_ | refine Go.starlst_2 ?_ | refine Go.startup_3 ?_ | refine Go.starlst_3 ?_ | refine Go.startup_4 ?_ | refine Go.starlst_4 ?_)
  | refine Go.slfT1 ?_ | refine Go.sltT1 ?_ | refine Go.slfL1 ?_ | refine Go.sltL1 ?_ | refine Go.slfT2 ?_ | refine Go.sltT2 ?_ | refine Go.slfL2 ?_ | refine Go.sltL2 ?_ | refine Go.slfT3 ?_ | refine Go.sltT3 ?_ | refine Go.slfL3 ?_ | refine Go.sltL3 ?_ | refine Go.slfT4 ?_ | refine Go.sltT4 ?_ | refine Go.slfL4 ?_ | refine Go.sltL4 ?_
  | (refine Go.gUns ?_; first | refine Go.uns0 ?_ | refine Go.uns1 ?_ | refine Go.uns2 ?_ | refine Go.uns3 ?_ | refine Go.uns4 ?_ | refine Go.uns5 ?_ | refine Go.uns6 ?_ | refine Go.uns7 ?_ | refine Go.uns8 ?_ | refine Go.uns9 ?_ | refine Go.uns10 ?_ | refine Go.uns11 ?_ | refine Go.uns12 ?_ | refine Go.uns13 ?_ | refine Go.uns14 ?_ | refine Go.uns15 ?_ | refine Go.uns16 ?_ | refine Go.uns17 ?_ | refine Go.uns18 ?_ | refine Go.uns19 ?_ | refine Go.uns20 ?_ | refine Go.uns21 ?_ | refine Go.uns22 ?_ | refine Go.uns23 ?_)
  | refine Go.entup0 ?_ | refine Go.enlst0 ?_ | refine Go.entup1 ?_ | refine Go.enlst1 ?_ | refine Go.entup2 ?_ | refine Go.enlst2 ?_ | refine Go.entup3 ?_ | refine Go.enlst3 ?_ | refine Go.entup4 ?_ | refine Go.enlst4 ?_ | refine Go.entup5 ?_ | refine Go.enlst5 ?_ | refine Go.entup6 ?_ | refine Go.enlst6 ?_)))
local macro_rules | `(tactic| walk_at "bl1") => `(tactic| first | ((with_reducible refine Go.gEqS ?_); (first | refine Go.eqS (b := true) ⟨rfl, by decide +kernel⟩ ⟨rfl, by decide +kernel⟩ rfl ?_ | refine Go.eqS (b := false) ⟨rfl, by decide +kernel⟩ ⟨rfl, by decide +kernel⟩ rfl ?_)) | ((with_reducible refine Go.gNeS ?_); (first | refine Go.neS (b := true) ⟨rfl, by decide +kernel⟩ ⟨rfl, by decide +kernel⟩ rfl ?_ | refine Go.neS (b := false) ⟨rfl, by decide +kernel⟩ ⟨rfl, by decide +kernel⟩ rfl ?_)) | walk_at "bl0" | ((with_reducible refine Go.gAll ?_); (refine Go.allB (by rfl) ?_)) | ((with_reducible refine Go.gIxT ?_); (refine Go.ixT (by rfl) ?_)) | ((with_reducible refine Go.gIxL ?_); (refine Go.ixL (by rfl) ?_)))
local macro_rules | `(tactic| walk_at "bl") => `(tactic| (repeat walk_at "bl1"))
/-! ### directions, quarters, how long faces are -/
theorem dot_spec {a b : P2} {n : Nat} {S : Sto} {Q : DK} {E : EK} (a1 : sm n a.1) (a2 : sm n a.2) (b1 : sm n b.1) (b2 : sm n b.2) (hn : n ≤ 4000) (k : Q (.int (dot a b)) S) : m_dot_of [pt a, pt b] S Q E := by
  refine e_dot_of ?_
  unfold t_dot_of
  walk_at "bl"
  refine Go.mul (a1.cmul b1 (by omega)) ?_
  walk_at "bl"
  refine Go.mul (a2.cmul b2 (by omega)) ?_
  walk_at "bl"
  exact k
theorem cross_spec {a b : P2} {n : Nat} {S : Sto} {Q : DK} {E : EK} (a1 : sm n a.1) (a2 : sm n a.2) (b1 : sm n b.1) (b2 : sm n b.2) (hn : n ≤ 4000) (k : Q (.int (crs a b)) S) : m_cross_of [pt a, pt b] S Q E := by
  refine e_cross_of ?_
  unfold t_cross_of
  walk_at "bl"
  refine Go.mul (a1.cmul b2 (by omega)) ?_
  walk_at "bl"
  refine Go.mul (a2.cmul b1 (by omega)) ?_
  walk_at "bl"
  exact k
/-- a direction of a whole length -/
structure DirOk (n : Nat) (v : P2) : Prop where
  ne : v ≠ (0, 0)
  w : Whole (dot v v)
  s1 : sm n v.1
  s2 : sm n v.2
theorem rot_ne {v : P2} (h : v ≠ (0, 0)) : ∀ n : Nat, rot n v ≠ (0, 0)
  | 0 => h
  | n + 1 => fun z => rot_ne h n (by
    have h1 : 0 - (rot n v).2 = 0 := congrArg Prod.fst z
    have h2 : (rot n v).1 = 0 := congrArg Prod.snd z
    exact Prod.ext h2 (by show (rot n v).2 = 0; omega))
theorem rot_sm {v : P2} {m : Nat} (h1 : sm m v.1) (h2 : sm m v.2) : ∀ n : Nat, sm m (rot n v).1 ∧ sm m (rot n v).2
  | 0 => ⟨h1, h2⟩
  | n + 1 => by
    obtain ⟨a, b⟩ := rot_sm h1 h2 n
    exact ⟨by show sm m (0 - (rot n v).2); unfold sm at *; omega, a⟩
theorem DirOk.rot {m : Nat} {v : P2} (h : DirOk m v) (n : Nat) : DirOk m (rot n v) := ⟨rot_ne h.ne n, by rw [rot_dot]; exact h.w, (rot_sm h.s1 h.s2 n).1, (rot_sm h.s1 h.s2 n).2⟩
theorem dot_nonneg (v : P2) : 0 ≤ dot v v := by
  have := far_nonneg (0, 0) v
  have e : far (0, 0) v = dot v v := by
    unfold far dif dot
    dsimp only
    grind
  omega
theorem dot_pos {v : P2} (h : v ≠ (0, 0)) : 0 < dot v v := by
  have e : far (0, 0) v = dot v v := by
    unfold far dif dot
    dsimp only
    grind
  have h1 := far_nonneg (0, 0) v
  have : far (0, 0) v ≠ 0 := fun z => h (far_zero z).symm
  omega
theorem Whole.isq {n : Int} (h : Whole n) : (isq n.toNat : Int) * isq n.toNat = n := by
  obtain ⟨r, r0, rfl⟩ := h
  obtain ⟨m, rfl⟩ := Int.eq_ofNat_of_zero_le r0
  have e : ((m : Int) * m).toNat = m * m := by
    have : ((m : Int) * m) = ((m * m : Nat) : Int) := by push_cast; rfl
    rw [this, Int.toNat_natCast]
  rw [e, isq_sq]
def lenq (v : P2) : Int := isq (dot v v).toNat
theorem lenq_sq {m : Nat} {v : P2} (h : DirOk m v) : lenq v * lenq v = dot v v := h.w.isq
theorem lenq_pos {v : P2} (h : v ≠ (0, 0)) : 0 < lenq v := by
  have h1 := dot_pos h
  have := isq_pos (n := (dot v v).toNat) (by omega)
  unfold lenq
  omega
theorem sm_dot {a b : P2} {n : Nat} (a1 : sm n a.1) (a2 : sm n a.2) (b1 : sm n b.1) (b2 : sm n b.2) : sm (n + n + 1) (dot a b) := (a1.mul b1).add (a2.mul b2)
theorem lenq_sm {n : Nat} {v : P2} (s1 : sm n v.1) (s2 : sm n v.2) : sm (n + n + 1) (lenq v) := isq_sm (dot_nonneg v) (sm_dot s1 s2 s1 s2)
theorem length_spec {v : P2} {n : Nat} {S : Sto} {Q : DK} {E : EK} (s1 : sm n v.1) (s2 : sm n v.2) (hn : n ≤ 1000) (k : Q (.int (lenq v)) S) : m_length_of [pt v] S Q E := by
  refine e_length_of ?_
  unfold t_length_of
  walk_at "bl"
  refine dot_spec s1 s2 s1 s2 (by omega) ?_
  walk_at "bl"
  exact whole_root_spec (dot_nonneg v) (sm_dot s1 s2 s1 s2) (by omega) k
/-- whether less than a quarter lies between -/
def cnd (h l : P2) : Prop := 0 ≤ crs h l ∧ 0 < dot h l
instance (h l : P2) : Decidable (cnd h l) := by unfold cnd; infer_instance
theorem pt_eq (a b : P2) : eqD (pt a) (pt b) = decide (a = b) := by
  show (a.1 == b.1 && (a.2 == b.2 && true)) = _
  rw [Bool.eq_iff_iff]
  simp only [Bool.and_eq_true, beq_iff_eq, and_true, decide_eq_true_eq]
  exact ⟨fun h => Prod.ext h.1 h.2, fun h => by rw [h]; exact ⟨rfl, rfl⟩⟩
theorem ok_pt (a : P2) : okD (pt a) := ⟨rfl, rfl⟩
theorem eq_pt {a b : P2} {S : Sto} {Q : DK} (k : Q (.bl (decide (a = b))) S) : fEq (pt a) (pt b) S Q := ⟨ok_pt _, ok_pt _, by rw [pt_eq]; exact k⟩
def FcGood (n : Nat) : Fc → Prop
  | .side a b => a ≠ b ∧ Bd a ∧ Bd b ∧ Whole (far a b)
  | .round c r f l => DirOk n f ∧ DirOk n l ∧ Bd c ∧ 0 ≤ r ∧ sm 25 r
/-- a loop over made items -/
theorem forD_map {α : Type} {f : α → D} {g : Tg} {b : TSd} {N : Nd} (P : List α → Ev → Sto → Prop) (turn : ∀ x xs env S, P (x :: xs) env S → ∃ e1, asgT S g (f x) env = some e1 ∧ ∀ N' : Nd, (∀ e s, P xs e s → N'.nx e s) → (∀ e s, P xs e s → N'.ct e s) → N'.rt = N.rt → N'.bk = N.nx → N'.ex = N.ex → b e1 S N') (fin : ∀ env S, P [] env S → N.nx env S) : ∀ (xs : List α) {env : Ev} {S : Sto}, P xs env S → forD g b (xs.map f) env S N
  | [], env, S, h => fin env S h
  | x :: xs, env, S, h => by
    obtain ⟨e1, ea, hb⟩ := turn x xs env S h
    rw [List.map_cons]
    unfold forD
    rw [ea]
    exact hb _ (fun e s q => forD_map P turn fin xs q) (fun e s q => forD_map P turn fin xs q) rfl rfl rfl
/-! the faces are good -/
theorem Whole.mul_of {g m : Int} (hg : 0 < g) (hm : 0 ≤ m) (h : Whole (g * g * m)) : Whole m := by
  obtain ⟨r, r0, e⟩ := h
  obtain ⟨G, rfl⟩ := Int.eq_ofNat_of_zero_le (show 0 ≤ g by omega)
  obtain ⟨M, rfl⟩ := Int.eq_ofNat_of_zero_le hm
  obtain ⟨R, rfl⟩ := Int.eq_ofNat_of_zero_le r0
  have e' : G * G * M = R * R := by exact_mod_cast e
  have hd : G ^ 2 ∣ R ^ 2 := ⟨M, by rw [Nat.pow_two, Nat.pow_two, e']⟩
  have hd2 : G ∣ R := (Nat.pow_dvd_pow_iff (by decide)).mp hd
  obtain ⟨T, rfl⟩ := hd2
  refine ⟨T, by omega, ?_⟩
  have hG : 0 < G * G := Nat.mul_pos (by omega) (by omega)
  have : G * G * M = G * G * (T * T) := by
    rw [e']
    grind
  have := Nat.eq_of_mul_eq_mul_left hG this
  rw [this]
  push_cast
  rfl
theorem low_mul {d : P2} (h : d ≠ (0, 0)) : d.1 = (Int.gcd d.1 d.2 : Int) * (low d).1 ∧ d.2 = (Int.gcd d.1 d.2 : Int) * (low d).2 := by
  have g := gcd_pos' h
  have h1 : (Int.gcd d.1 d.2 : Int) ∣ d.1 := Int.gcd_dvd_left ..
  have h2 : (Int.gcd d.1 d.2 : Int) ∣ d.2 := Int.gcd_dvd_right ..
  exact ⟨(Int.mul_ediv_cancel' h1).symm, (Int.mul_ediv_cancel' h2).symm⟩
theorem low_ok {n : Nat} {d : P2} (h : d ≠ (0, 0)) (w : Whole (dot d d)) (h1 : sm n d.1) (h2 : sm n d.2) : DirOk n (low d) := by
  obtain ⟨e1, e2⟩ := low_mul h
  have g := gcd_pos' h
  have ne : low d ≠ (0, 0) := fun z => by
    rw [z] at e1 e2
    exact h (Prod.ext (by rw [e1]; show _ * (0 : Int) = 0; omega) (by rw [e2]; show _ * (0 : Int) = 0; omega))
  have le : ∀ {a b c : Int}, 0 < b → a = b * c → sm n a → sm n c := fun {a b c} hb e hs => by
    unfold sm at *
    rw [e, Int.natAbs_mul] at hs
    have : c.natAbs ≤ b.natAbs * c.natAbs := Nat.le_mul_of_pos_left _ (by omega)
    omega
  refine ⟨ne, Whole.mul_of g (dot_nonneg _) ?_, le g e1 h1, le g e2 h2⟩
  have : dot d d = (Int.gcd d.1 d.2 : Int) * (Int.gcd d.1 d.2 : Int) * dot (low d) (low d) := by
    generalize (Int.gcd d.1 d.2 : Int) = G at *
    unfold dot
    rw [e1, e2]
    generalize low d = L at *
    grind
  rw [← this]
  exact w
theorem dir_of {a b : P2} (h : a ≠ b) (ha : Bd a) (hb : Bd b) (w : Whole (far b a)) : DirOk 12 (low (dif a b)) := by
  obtain ⟨s1, s2⟩ := sm_dif ha hb
  refine low_ok (dif_ne h) ?_ s1 s2
  have e : dot (dif a b) (dif a b) = far b a := by
    unfold far dif dot
    dsimp only
    grind
  rw [e]
  exact w
theorem outw_ok {a b : P2} (h : a ≠ b) (ha : Bd a) (hb : Bd b) (w : Whole (far a b)) : DirOk 12 (outw a b) := by
  obtain ⟨s1, s2⟩ := sm_dif hb ha
  refine low_ok (fun z => dif_ne (Ne.symm h) ?_) ?_ s2 (by unfold sm at *; show (0 - (dif b a).1).natAbs < _; omega)
  · have z1 : (dif b a).2 = 0 := congrArg Prod.fst z
    have z2 : 0 - (dif b a).1 = 0 := congrArg Prod.snd z
    exact Prod.ext (by show (dif b a).1 = 0; omega) z1
  · have e : dot ((dif b a).2, 0 - (dif b a).1) ((dif b a).2, 0 - (dif b a).1) = far a b := by
      unfold far dif dot
      dsimp only
      grind
    rw [e]
    exact w
theorem far_comm (a b : P2) : far a b = far b a := by
  unfold far dif dot
  dsimp only
  grind
theorem faces_good {t : Th} (h : GoodTh t) : ∀ f ∈ facesL t, FcGood 12 f := by
  have one : DirOk 12 (1, 0) := ⟨by decide, ⟨1, by decide, by decide⟩, sm.of (by decide), sm.of (by decide)⟩
  have z25 : sm 25 0 := sm.of (by decide)
  cases t with
  | spot p =>
    intro f hf
    rw [List.mem_singleton.mp hf]
    exact ⟨one, one, h, by decide, z25⟩
  | cord p q =>
    obtain ⟨hp, hq, hne, w⟩ := h
    have w' : Whole (far q p) := by rw [far_comm]; exact w
    have o1 := outw_ok hne hp hq w
    have o2 := outw_ok (Ne.symm hne) hq hp w'
    intro f hf
    simp only [facesL, List.mem_cons, List.not_mem_nil, or_false] at hf
    rcases hf with rfl | rfl | rfl | rfl
    · exact ⟨hne, hp, hq, w⟩
    · exact ⟨o1, o2, hq, by decide, z25⟩
    · exact ⟨Ne.symm hne, hq, hp, w'⟩
    · exact ⟨o2, o1, hp, by decide, z25⟩
  | bow c p q =>
    obtain ⟨hc, hp, hq, hb⟩ := h
    obtain ⟨np, nq⟩ := hb.np
    have w' : Whole (far q p) := by rw [far_comm]; exact hb.wd
    have o2 := outw_ok (Ne.symm hb.ne) hq hp w'
    have d1 := dir_of np hp hc hb.wr
    have d2 := dir_of nq hq hc (by rw [← hb.eq]; exact hb.wr)
    intro f hf
    simp only [facesL, List.mem_cons, List.not_mem_nil, or_false] at hf
    rcases hf with rfl | rfl | rfl | rfl
    · exact ⟨d1, d2, hc, by omega, isq_sm (far_nonneg c p) (sm_far hc hp)⟩
    · exact ⟨d2, o2, hq, by decide, z25⟩
    · exact ⟨Ne.symm hb.ne, hq, hp, w'⟩
    · exact ⟨o2, d1, hp, by decide, z25⟩
end Lb

namespace Lb
open PySem PySem.Spec PyProof.Rows L2 Bl
end Lb

namespace Lb
open PySem PySem.Spec PyProof.Rows L2 Bl
local macro_rules | `(tactic| walk_at "bl0") => `(tactic| (with_reducible (first
  | (refine Go.gVr ?_; first | refine Go.vr0 ?_ | refine Go.vr1 ?_ | refine Go.vr2 ?_ | refine Go.vr3 ?_ | refine Go.vr4 ?_ | refine Go.vr5 ?_ | refine Go.vr6 ?_ | refine Go.vr7 ?_ | refine Go.vr8 ?_ | refine Go.vr9 ?_ | refine Go.vr10 ?_ | refine Go.vr11 ?_ | refine Go.vr12 ?_ | refine Go.vr13 ?_ | refine Go.vr14 ?_ | refine Go.vr15 ?_ | refine Go.vr16 ?_ | refine Go.vr17 ?_ | refine Go.vr18 ?_ | refine Go.vr19 ?_ | refine Go.vr20 ?_ | refine Go.vr21 ?_ | refine Go.vr22 ?_ | refine Go.vr23 ?_)
  | refine Go.seq ?_
  | refine Go.nx' ?_
  | refine Go.ret ?_
  | refine Go.if' ?_
  | refine Go.asg ?_
  | refine Go.par ?_
  | refine Go.drop ?_
  | refine Go.brk ?_
  | refine Go.cnt ?_
  | refine Go.raise ?_
  | refine Go.thru ?_
  | refine Go.tryAs ?_
  | refine Go.for' ?_
  | refine Go.sub ?_
  | refine Go.retN ?_
  | refine Go.par_cons ?_
  | refine Go.par_nil ?_
  | refine Go.cn' ?_
  | refine Go.two ?_
  | refine Go.nil ?_
  | refine Go.cons ?_
  | refine Go.tup ?_
  | refine Go.lst ?_
  | refine Go.lstR ?_
  | refine Go.tbl' ?_
  | refine Go.tblK' ?_
  | refine Go.ttr' ?_
  | refine Go.truB ?_
  | refine Go.truI ?_
  | refine Go.truN ?_
  | refine Go.and' ?_
  | refine Go.or' ?_
  | refine Go.not' ?_
  | refine Go.vOf' ?_
  | refine Go.vNot' ?_
  | refine Go.eIf' ?_
  | refine Go.ifT ?_
  | refine Go.ifF ?_
  | refine Go.ifN ?_
  | refine Go.add ?_
  | refine Go.sub' ?_
  | refine Go.lt ?_
  | refine Go.le ?_
  | refine Go.gt ?_
  | refine Go.ge ?_
  | refine Go.eqI ?_
  | refine Go.neI ?_
  | refine Go.is' ?_
  | refine Go.isNot' ?_
  | refine Go.chain ?_
  | refine Go.dB' ?_
  | refine Go.neg ?_
  | refine Go.neg' ?_
  | refine Go.abs' ?_
  | refine Go.lenT ?_
  | refine Go.lenL ?_
  | refine Go.max' ?_
  | refine Go.min' ?_
  | refine Go.intI ?_
  | refine Go.intB ?_
  | refine Go.tupL ?_
  | refine Go.tupT ?_
  | refine Go.isi ?_
  | refine Go.call ?_
  | refine Go.iVal' ?_
  | refine Go.iValT ?_
  | refine Go.iValL ?_
  | refine Go.r1 ?_
  | refine Go.r2 ?_
  | refine Go.star ?_
  | refine Go.l_cons ?_
  | refine Go.l_nil ?_
  | refine Go.enum' ?_
  | refine Go.rev' ?_
  | refine Go.zip' ?_
  | refine Go.wipe_nil ?_
  | refine Go.wipe_cons ?_
  | refine Go.iadd ?_
  | refine Go.sl ?_
  | refine Go.oN ?_
  | refine Go.oS ?_
  | refine Go.osK' ?_
  | refine Go.getL ?_
  | refine Go.lc ?_
  | refine Go.lcR ?_
  | refine Go.lg_nil ?_
  | refine Go.lg_cons ?_
  | refine Go.yes ?_
  | refine Go.for_nil ?_
  | refine Go.for_cons ?_
  | refine Go.revT ?_
  | refine Go.revL ?_
  | refine Go.zipT ?_
  | refine Go.zipL ?_
  | refine Go.tupK' rfl ?_
  | refine Go.lstK' rfl ?_
  | refine Go.callK' rfl rfl ?_
  | refine Go.lcL rfl ?_
  | refine Go.getLL' rfl ?_
  | refine Go.addT rfl ?_
  | (refine Go.gAsg ?_; first | refine Go.set0 ?_ | refine Go.set1 ?_ | refine Go.set2 ?_ | refine Go.set3 ?_ | refine Go.set4 ?_ | refine Go.set5 ?_ | refine Go.set6 ?_ | refine Go.set7 ?_ | refine Go.set8 ?_ | refine Go.set9 ?_ | refine Go.set10 ?_ | refine Go.set11 ?_ | refine Go.set12 ?_ | refine Go.set13 ?_ | refine Go.set14 ?_ | refine Go.set15 ?_ | refine Go.set16 ?_ | refine Go.set17 ?_ | refine Go.set18 ?_ | refine Go.set19 ?_ | refine Go.set20 ?_ | refine Go.set21 ?_ | refine Go.set22 ?_ | refine Go.set23 ?_ | refine Go.tp_cons ?_ | refine Go.tp_nil ?_)
  | (refine Go.gIxT ?_; first | refine Go.ixT0 ?_ | refine Go.ixT1 ?_ | refine Go.ixT2 ?_ | refine Go.ixT3 ?_ | refine Go.ixT4 ?_ | refine Go.ixT5 ?_ | refine Go.ixT6 ?_ | refine Go.ixT7 ?_)
  | (refine Go.gIxL ?_; first | refine Go.ixL0 ?_ | refine Go.ixL1 ?_ | refine Go.ixL2 ?_ | refine Go.ixL3 ?_ | refine Go.ixL4 ?_ | refine Go.ixL5 ?_ | refine Go.ixL6 ?_ | refine Go.ixL7 ?_)
  | (refine Go.gAug ?_; first | refine Go.aug0 ?_ | refine Go.aug1 ?_ | refine Go.aug2 ?_ | refine Go.aug3 ?_ | refine Go.aug4 ?_ | refine Go.aug5 ?_ | refine Go.aug6 ?_ | refine Go.aug7 ?_ | refine Go.aug8 ?_ | refine Go.aug9 ?_ | refine Go.aug10 ?_ | refine Go.aug11 ?_ | refine Go.aug12 ?_ | refine Go.aug13 ?_ | refine Go.aug14 ?_ | refine Go.aug15 ?_ | refine Go.aug16 ?_ | refine Go.aug17 ?_ | refine Go.aug18 ?_ | refine Go.aug19 ?_ | refine Go.aug20 ?_ | refine Go.aug21 ?_ | refine Go.aug22 ?_ | refine Go.aug23 ?_)
  | (refine Go.gStar ?_; first | refine Go.startup0 ?_ | refine Go.starlst0 ?_ | refine Go.startup1 ?_ | refine Go.starlst1 ?_ | refine Go.startup2 ?_ | refine Go.starlst2 ?_ | refine Go.startup3 ?_ | refine Go.starlst3 ?_ | refine Go.startup4 ?_ | refine Go.starlst4 ?_ | refine Go.startup_2 ?_ | refine Go.starlst_2 ?_ | refine Go.startup_3 ?_ | refine Go.starlst_3 ?_ | refine Go.startup_4 ?_ | refine Go.starlst_4 ?_)
  | refine Go.slfT1 ?_ | refine Go.sltT1 ?_ | refine Go.slfL1 ?_ | refine Go.sltL1 ?_ | refine Go.slfT2 ?_ | refine Go.sltT2 ?_ | refine Go.slfL2 ?_ | refine Go.sltL2 ?_ | refine Go.slfT3 ?_ | refine Go.sltT3 ?_ | refine Go.slfL3 ?_ | refine Go.sltL3 ?_ | refine Go.slfT4 ?_ | refine Go.sltT4 ?_ | refine Go.slfL4 ?_ | refine Go.sltL4 ?_
  | (refine Go.gUns ?_; first | refine Go.uns0 ?_ | refine Go.uns1 ?_ | refine Go.uns2 ?_ | refine Go.uns3 ?_ | refine Go.uns4 ?_ | refine Go.uns5 ?_ | refine Go.uns6 ?_ | refine Go.uns7 ?_ | refine Go.uns8 ?_ | refine Go.uns9 ?_ | refine Go.uns10 ?_ | refine Go.uns11 ?_ | refine Go.uns12 ?_ | refine Go.uns13 ?_ | refine Go.uns14 ?_ | refine Go.uns15 ?_ | refine Go.uns16 ?_ | refine Go.uns17 ?_ | refine Go.uns18 ?_ | refine Go.uns19 ?_ | refine Go.uns20 ?_ | refine Go.uns21 ?_ | refine Go.uns22 ?_ | refine Go.uns23 ?_)
  | refine Go.entup0 ?_ | refine Go.enlst0 ?_ | refine Go.entup1 ?_ | refine Go.enlst1 ?_ | refine Go.entup2 ?_ | refine Go.enlst2 ?_ | refine Go.entup3 ?_ | refine Go.enlst3 ?_ | refine Go.entup4 ?_ | refine Go.enlst4 ?_ | refine Go.entup5 ?_ | refine Go.enlst5 ?_ | refine Go.entup6 ?_ | refine Go.enlst6 ?_)))
local macro_rules | `(tactic| walk_at "bl1") => `(tactic| first | ((with_reducible refine Go.gEqS ?_); (first | refine Go.eqS (b := true) ⟨rfl, by decide +kernel⟩ ⟨rfl, by decide +kernel⟩ rfl ?_ | refine Go.eqS (b := false) ⟨rfl, by decide +kernel⟩ ⟨rfl, by decide +kernel⟩ rfl ?_)) | ((with_reducible refine Go.gNeS ?_); (first | refine Go.neS (b := true) ⟨rfl, by decide +kernel⟩ ⟨rfl, by decide +kernel⟩ rfl ?_ | refine Go.neS (b := false) ⟨rfl, by decide +kernel⟩ ⟨rfl, by decide +kernel⟩ rfl ?_)) | walk_at "bl0" | ((with_reducible refine Go.gAll ?_); (refine Go.allB (by rfl) ?_)) | ((with_reducible refine Go.gIxT ?_); (refine Go.ixT (by rfl) ?_)) | ((with_reducible refine Go.gIxL ?_); (refine Go.ixL (by rfl) ?_)))
local macro_rules | `(tactic| walk_at "bl") => `(tactic| (repeat walk_at "bl1"))
local macro_rules | `(tactic| walk_at "bl0") => `(tactic| (with_reducible (first | refine Go.zipS' ?_ | refine Go.zipR' ?_ | refine Go.seqT ?_ | refine Go.seqL ?_ | refine Go.zipST rfl ?_ | refine Go.zipSL rfl ?_ | refine Go.for_zc ?_ | refine Go.for_zn ?_ | refine Go.lg_zc ?_ | refine Go.lg_zn ?_)))
/-! ### what is grown anew -/
def Up (S S' : Sto) : Prop := ∀ b, S b ≠ none → S' b = S b
theorem Up.refl (S : Sto) : Up S S := fun _ _ => rfl
theorem Up.trans {S S1 S2 : Sto} (h : Up S S1) (k : Up S1 S2) : Up S S2 := fun b hb => by rw [k b (by rw [h b hb]; exact hb), h b hb]
theorem Up.sup {S S1 : Sto} {a : Addr} {ds : List D} (h : Up S S1) (n : S a = none) : Up S (sup S1 a ds) := fun b hb => by
  rw [sup_ne (fun z => hb (by rw [z]; exact n))]
  exact h b hb
theorem Bg.up {S S1 : Sto} {a : Addr} (h : Bg S a) (u : Up S S1) : Bg S1 a := by
  obtain ⟨c, m, e, r⟩ := h
  exact ⟨c, m, by rw [u a (by rw [e]; simp)]; exact e, r⟩
/-! ### fractions of any two sizes -/
/-! ### how far round: quarters and the rest -/
end Lb

namespace Lr
open PySem PySem.Spec PyProof.Rows L2 Bl Lb
def t_field_sign : TSd := sSeq (sIf (tOrD (tbl (dTwo (dTwo (dCall m_sign_of 1 0 (fun ds _ => ds) (aCons (vr 0) (aNil)) aNil) (dCall m_sign_of 1 0 (fun ds _ => ds) (aCons (vr 1) (aNil)) aNil) fMul) (cn (.int 0)) fGe)) (tbl (dTwo (vr 2) (cn (.int 0)) fEq))) (sRet (eIf (tbl (dTwo (vr 2) (cn (.int 0)) fEq)) (dCall m_sign_of 1 0 (fun ds _ => ds) (aCons (vr 0) (aNil)) aNil) (dCall m_sign_of 1 0 (fun ds _ => ds) (aCons (dTwo (dCall m_sign_of 1 0 (fun ds _ => ds) (aCons (vr 0) (aNil)) aNil) (dCall m_sign_of 1 0 (fun ds _ => ds) (aCons (vr 1) (aNil)) aNil) fAdd) (aNil)) aNil))) (sNx)) (sRet (dTwo (dCall m_sign_of 1 0 (fun ds _ => ds) (aCons (vr 0) (aNil)) aNil) (dCall m_sign_of 1 0 (fun ds _ => ds) (aCons (dTwo (dTwo (vr 0) (vr 0) fMul) (dTwo (dTwo (vr 1) (vr 1) fMul) (vr 2) fMul) fSub) (aNil)) aNil) fMul))
def m_field_sign : TFd := fnD 3 3 t_field_sign
theorem e_field_sign {a0 a1 a2 : D} {S : Sto} {Q : DK} {E : EK} (k : t_field_sign [some a0, some a1, some a2] S ⟨fun _ S1 => Q .non S1, Q, fun _ _ => False, fun _ _ => False, fun x _ S1 => E x S1⟩) : m_field_sign [a0, a1, a2] S Q E := ⟨rfl, k⟩
def t_root_sign : TSd := sSeq (sAsg (vr 0) (.tp (.nm 1 :: .nm 2 :: .nm 3 :: []))) (sSeq (sAsg (dTwo (dTwo (vr 1) (cn (.int 1)) fIx) (dTwo (vr 3) (cn (.int 1)) fIx) fMul) (.nm 4)) (sRet (dCall m_field_sign 3 0 (fun ds _ => ds) (aCons (dTwo (dTwo (dTwo (vr 1) (cn (.int 0)) fIx) (dTwo (vr 3) (cn (.int 1)) fIx) fMul) (dTwo (vr 3) (cn (.int 1)) fIx) fMul) (aCons (dTwo (vr 2) (vr 4) fMul) (aCons (dTwo (dTwo (vr 3) (cn (.int 0)) fIx) (dTwo (vr 3) (cn (.int 1)) fIx) fMul) (aNil)))) aNil)))
def m_root_sign : TFd := fnD 1 5 t_root_sign
theorem e_root_sign {a0 : D} {S : Sto} {Q : DK} {E : EK} (k : t_root_sign [some a0, none, none, none, none] S ⟨fun _ S1 => Q .non S1, Q, fun _ _ => False, fun _ _ => False, fun x _ S1 => E x S1⟩) : m_root_sign [a0] S Q E := ⟨rfl, k⟩
end Lr

namespace Rl
/-! ### real numbers: rows of fractions that draw together -/
structure Sq where
  f : Nat → Rat
  c : ∀ e : Rat, 0 < e → ∃ N, ∀ m n, N ≤ m → N ≤ n → f m - f n < e
def Eqv (a b : Sq) : Prop := ∀ e : Rat, 0 < e → ∃ N, ∀ n, N ≤ n → a.f n - b.f n < e ∧ b.f n - a.f n < e
theorem half {e : Rat} (h : 0 < e) : ∃ d : Rat, 0 < d ∧ d + d = e := ⟨e / 2, by grind, by grind⟩
theorem Eqv.refl (a : Sq) : Eqv a a := fun e h => ⟨0, fun n _ => ⟨by grind, by grind⟩⟩
theorem Eqv.symm {a b : Sq} (h : Eqv a b) : Eqv b a := fun e he => by
  obtain ⟨N, hN⟩ := h e he
  exact ⟨N, fun n hn => ⟨(hN n hn).2, (hN n hn).1⟩⟩
theorem Eqv.trans {a b c : Sq} (h : Eqv a b) (k : Eqv b c) : Eqv a c := fun e he => by
  obtain ⟨d, d0, dd⟩ := half he
  obtain ⟨N, hN⟩ := h d d0
  obtain ⟨M, hM⟩ := k d d0
  refine ⟨max N M, fun n hn => ?_⟩
  have h1 := hN n (by omega)
  have h2 := hM n (by omega)
  exact ⟨by grind, by grind⟩
instance sqd : Setoid Sq := ⟨Eqv, ⟨Eqv.refl, Eqv.symm, Eqv.trans⟩⟩
def Real : Type := Quotient sqd
theorem bound (a : Sq) : ∃ B : Rat, 0 < B ∧ ∃ N, ∀ n, N ≤ n → -B < a.f n ∧ a.f n < B := by
  obtain ⟨N, hN⟩ := a.c 1 (by decide)
  have key : ∀ x y : Rat, x - y < 1 → y - x < 1 → -(y * y + 3) < x ∧ x < y * y + 3 := fun x y h1 h2 => by
    have s1 := Lb.sq_nonneg (y - 1)
    have s2 := Lb.sq_nonneg (y + 1)
    exact ⟨by grind, by grind⟩
  refine ⟨a.f N * a.f N + 3, ?_, N, fun n hn => key _ _ (hN n N hn (Nat.le_refl _)) (hN N n (Nat.le_refl _) hn)⟩
  have := Lb.sq_nonneg (a.f N)
  grind
theorem mul_lt {x y B d : Rat} (h1 : -B < x) (h2 : x < B) (h3 : -d < y) (h4 : y < d) : x * y < B * d := by
  have a := Rat.mul_pos (show 0 < B - x by grind) (show 0 < d + y by grind)
  have b := Rat.mul_pos (show 0 < B + x by grind) (show 0 < d - y by grind)
  grind
theorem part {B e : Rat} (hB : 0 < B) (he : 0 < e) : ∃ d : Rat, 0 < d ∧ B * d = e := ⟨e / B, by
  rw [Rat.div_def]
  exact Rat.mul_pos he (Rat.inv_pos.mpr hB), by
  have : B ≠ 0 := fun z => by rw [z] at hB; exact absurd hB (by decide)
  rw [Rat.mul_comm]
  exact Rat.div_mul_cancel this⟩
def cst (q : Rat) : Sq := ⟨fun _ => q, fun e he => ⟨0, fun m n _ _ => by grind⟩⟩
def addS (a b : Sq) : Sq := ⟨fun n => a.f n + b.f n, fun e he => by
  obtain ⟨d, d0, dd⟩ := half he
  obtain ⟨N, hN⟩ := a.c d d0
  obtain ⟨M, hM⟩ := b.c d d0
  refine ⟨max N M, fun m n hm hn => ?_⟩
  have h1 := hN m n (by omega) (by omega)
  have h2 := hM m n (by omega) (by omega)
  grind⟩
def negS (a : Sq) : Sq := ⟨fun n => - a.f n, fun e he => by
  obtain ⟨N, hN⟩ := a.c e he
  refine ⟨N, fun m n hm hn => ?_⟩
  have := hN n m hn hm
  grind⟩
def mulS (a b : Sq) : Sq := ⟨fun n => a.f n * b.f n, fun e he => by
  obtain ⟨B, B0, N1, hB⟩ := bound a
  obtain ⟨C, C0, N2, hC⟩ := bound b
  obtain ⟨d, d0, dd⟩ := half he
  obtain ⟨u, u0, eu⟩ := part B0 d0
  obtain ⟨v, v0, ew⟩ := part C0 d0
  obtain ⟨N3, h3⟩ := b.c u u0
  obtain ⟨N4, h4⟩ := a.c v v0
  refine ⟨max (max N1 N2) (max N3 N4), fun m n hm hn => ?_⟩
  have x1 := hB m (by omega)
  have x2 := hC n (by omega)
  have y1 := h3 m n (by omega) (by omega)
  have y2 := h3 n m (by omega) (by omega)
  have z1 := h4 m n (by omega) (by omega)
  have z2 := h4 n m (by omega) (by omega)
  have p := mul_lt (x := a.f m) (y := b.f m - b.f n) x1.1 x1.2 (by grind) y1
  have q := mul_lt (x := b.f n) (y := a.f m - a.f n) x2.1 x2.2 (by grind) z1
  grind⟩
theorem add_eqv {a a' b b' : Sq} (h : Eqv a a') (k : Eqv b b') : Eqv (addS a b) (addS a' b') := fun e he => by
  obtain ⟨d, d0, dd⟩ := half he
  obtain ⟨N, hN⟩ := h d d0
  obtain ⟨M, hM⟩ := k d d0
  refine ⟨max N M, fun n hn => ?_⟩
  have h1 := hN n (by omega)
  have h2 := hM n (by omega)
  exact ⟨by show a.f n + b.f n - (a'.f n + b'.f n) < e; grind, by show a'.f n + b'.f n - (a.f n + b.f n) < e; grind⟩
theorem neg_eqv {a a' : Sq} (h : Eqv a a') : Eqv (negS a) (negS a') := fun e he => by
  obtain ⟨N, hN⟩ := h e he
  refine ⟨N, fun n hn => ?_⟩
  have h1 := hN n hn
  exact ⟨by show - a.f n - - a'.f n < e; grind, by show - a'.f n - - a.f n < e; grind⟩
theorem mul_eqv {a a' b b' : Sq} (h : Eqv a a') (k : Eqv b b') : Eqv (mulS a b) (mulS a' b') := fun e he => by
  obtain ⟨B, B0, N1, hB⟩ := bound a
  obtain ⟨C, C0, N2, hC⟩ := bound b'
  obtain ⟨d, d0, dd⟩ := half he
  obtain ⟨u, u0, eu⟩ := part B0 d0
  obtain ⟨v, v0, ew⟩ := part C0 d0
  obtain ⟨N3, h3⟩ := k u u0
  obtain ⟨N4, h4⟩ := h v v0
  refine ⟨max (max N1 N2) (max N3 N4), fun n hn => ?_⟩
  have x1 := hB n (by omega)
  have x2 := hC n (by omega)
  have y := h3 n (by omega)
  have z := h4 n (by omega)
  have p := mul_lt (x := a.f n) (y := b.f n - b'.f n) x1.1 x1.2 (by grind) y.1
  have p' := mul_lt (x := a.f n) (y := b'.f n - b.f n) x1.1 x1.2 (by grind) y.2
  have q := mul_lt (x := b'.f n) (y := a.f n - a'.f n) x2.1 x2.2 (by grind) z.1
  have q' := mul_lt (x := b'.f n) (y := a'.f n - a.f n) x2.1 x2.2 (by grind) z.2
  exact ⟨by show a.f n * b.f n - a'.f n * b'.f n < e; grind, by show a'.f n * b'.f n - a.f n * b.f n < e; grind⟩
namespace Real
def mk (a : Sq) : Real := Quotient.mk sqd a
def of (q : Rat) : Real := mk (cst q)
def add : Real → Real → Real := Quotient.lift₂ (fun a b => mk (addS a b)) fun _ _ _ _ h k => Quotient.sound (add_eqv h k)
def mul : Real → Real → Real := Quotient.lift₂ (fun a b => mk (mulS a b)) fun _ _ _ _ h k => Quotient.sound (mul_eqv h k)
def neg : Real → Real := Quotient.lift (fun a => mk (negS a)) fun _ _ h => Quotient.sound (neg_eqv h)
def pw (a : Real) : Nat → Real
  | 0 => of 1
  | n + 1 => mul (pw a n) a
theorem ext {a b : Sq} (h : ∀ n, a.f n = b.f n) : mk a = mk b := Quotient.sound (s := sqd) fun e he => ⟨0, fun n _ => by rw [h n]; exact ⟨by grind, by grind⟩⟩
instance : Add Real := ⟨add⟩
instance : Mul Real := ⟨mul⟩
instance : Neg Real := ⟨neg⟩
instance : Sub Real := ⟨fun a b => add a (neg b)⟩
instance : NatCast Real := ⟨fun n => of (n : Rat)⟩
instance : IntCast Real := ⟨fun n => of (n : Rat)⟩
instance (n : Nat) : OfNat Real n := ⟨of (n : Rat)⟩
instance : SMul Nat Real := ⟨fun n a => mul (of (n : Rat)) a⟩
instance : SMul Int Real := ⟨fun n a => mul (of (n : Rat)) a⟩
instance : HPow Real Nat Real := ⟨pw⟩
theorem of_add (a b : Rat) : of (a + b) = of a + of b := rfl
theorem of_mul (a b : Rat) : of (a * b) = of a * of b := rfl
theorem of_neg (a : Rat) : of (-a) = - of a := rfl
instance semi : Lean.Grind.Semiring Real where
  natCast := inferInstance
  ofNat := inferInstance
  nsmul := inferInstance
  npow := inferInstance
  add_zero a := Quotient.inductionOn a fun a => ext fun n => by show a.f n + ((0 : Nat) : Rat) = a.f n; grind
  add_comm a b := Quotient.inductionOn₂ a b fun a b => ext fun n => by show a.f n + b.f n = b.f n + a.f n; grind
  add_assoc a b c := Quotient.inductionOn₃ a b c fun a b c => ext fun n => by show a.f n + b.f n + c.f n = a.f n + (b.f n + c.f n); grind
  mul_assoc a b c := Quotient.inductionOn₃ a b c fun a b c => ext fun n => by show a.f n * b.f n * c.f n = a.f n * (b.f n * c.f n); grind
  mul_one a := Quotient.inductionOn a fun a => ext fun n => by show a.f n * ((1 : Nat) : Rat) = a.f n; grind
  one_mul a := Quotient.inductionOn a fun a => ext fun n => by show ((1 : Nat) : Rat) * a.f n = a.f n; grind
  left_distrib a b c := Quotient.inductionOn₃ a b c fun a b c => ext fun n => by show a.f n * (b.f n + c.f n) = a.f n * b.f n + a.f n * c.f n; grind
  right_distrib a b c := Quotient.inductionOn₃ a b c fun a b c => ext fun n => by show (a.f n + b.f n) * c.f n = a.f n * c.f n + b.f n * c.f n; grind
  zero_mul a := Quotient.inductionOn a fun a => ext fun n => by show ((0 : Nat) : Rat) * a.f n = ((0 : Nat) : Rat); grind
  mul_zero a := Quotient.inductionOn a fun a => ext fun n => by show a.f n * ((0 : Nat) : Rat) = ((0 : Nat) : Rat); grind
  pow_zero a := rfl
  pow_succ a n := rfl
  ofNat_succ n := ext fun _ => by show ((n + 1 : Nat) : Rat) = (n : Rat) + ((1 : Nat) : Rat); rw [Rat.natCast_add]
  ofNat_eq_natCast n := rfl
  nsmul_eq_natCast_mul n a := rfl
instance ring : Lean.Grind.Ring Real where
  toSemiring := semi
  intCast := inferInstance
  zsmul := inferInstance
  neg_add_cancel a := Quotient.inductionOn a fun a => ext fun n => by show - a.f n + a.f n = ((0 : Nat) : Rat); grind
  sub_eq_add_neg a b := rfl
  neg_zsmul i a := Quotient.inductionOn a fun a => ext fun n => by show ((-i : Int) : Rat) * a.f n = -((i : Rat) * a.f n); rw [Rat.intCast_neg]; grind
  zsmul_natCast_eq_nsmul n a := Quotient.inductionOn a fun a => ext fun _ => rfl
  intCast_ofNat n := rfl
  intCast_neg i := ext fun _ => by show ((-i : Int) : Rat) = -(i : Rat); rw [Rat.intCast_neg]
instance comm : Lean.Grind.CommRing Real where
  toRing := ring
  mul_comm a b := Quotient.inductionOn₂ a b fun a b => ext fun n => by show a.f n * b.f n = b.f n * a.f n; grind
end Real
end Rl

namespace Rl
/-! ### their order -/
def PosS (a : Sq) : Prop := ∃ e : Rat, 0 < e ∧ ∃ N, ∀ n, N ≤ n → e < a.f n
theorem pos_eqv {a b : Sq} (h : Eqv a b) (p : PosS a) : PosS b := by
  obtain ⟨e, e0, N, hN⟩ := p
  obtain ⟨d, d0, dd⟩ := half e0
  obtain ⟨M, hM⟩ := h d d0
  refine ⟨d, d0, max N M, fun n hn => ?_⟩
  have h1 := hN n (by omega)
  have h2 := (hM n (by omega)).1
  grind
theorem tri (a : Sq) : PosS a ∨ Eqv a (cst 0) ∨ PosS (negS a) := by
  by_cases h : Eqv a (cst 0)
  · exact .inr (.inl h)
  · have : ∃ e : Rat, 0 < e ∧ ∀ N, ∃ n, N ≤ n ∧ ¬ (a.f n - 0 < e ∧ 0 - a.f n < e) := by
      false_or_by_contra
      rename_i hh
      refine h fun e he => ?_
      false_or_by_contra
      rename_i h2
      refine hh ⟨e, he, fun N => ?_⟩
      false_or_by_contra
      rename_i h3
      refine h2 ⟨N, fun n hn => ?_⟩
      false_or_by_contra
      rename_i h4
      exact h3 ⟨n, hn, h4⟩
    obtain ⟨e, e0, h1⟩ := this
    obtain ⟨d, d0, dd⟩ := half e0
    obtain ⟨N, hN⟩ := a.c d d0
    obtain ⟨n, hn, h2⟩ := h1 N
    by_cases hp : 0 < a.f n
    · left
      refine ⟨d, d0, N, fun m hm => ?_⟩
      have h3 := hN n m hn hm
      have h4 : e ≤ a.f n := by
        false_or_by_contra
        rename_i h5
        exact h2 ⟨by grind, by grind⟩
      grind
    · right; right
      refine ⟨d, d0, N, fun m hm => ?_⟩
      have h3 := hN m n hm hn
      have h4 : e ≤ - a.f n := by
        false_or_by_contra
        rename_i h5
        exact h2 ⟨by grind, by grind⟩
      show d < - a.f m
      grind
theorem pos_add {a b : Sq} (h : PosS a) (k : PosS b) : PosS (addS a b) := by
  obtain ⟨e, e0, N, hN⟩ := h
  obtain ⟨d, d0, M, hM⟩ := k
  refine ⟨e, e0, max N M, fun n hn => ?_⟩
  have h1 := hN n (by omega)
  have h2 := hM n (by omega)
  show e < a.f n + b.f n
  grind
theorem pos_mul {a b : Sq} (h : PosS a) (k : PosS b) : PosS (mulS a b) := by
  obtain ⟨e, e0, N, hN⟩ := h
  obtain ⟨d, d0, M, hM⟩ := k
  refine ⟨e * d, Rat.mul_pos e0 d0, max N M, fun n hn => ?_⟩
  have h1 := hN n (by omega)
  have h2 := hM n (by omega)
  show e * d < a.f n * b.f n
  have p := Rat.mul_pos (show 0 < a.f n - e by grind) (show 0 < b.f n by grind)
  have q := Rat.mul_pos e0 (show 0 < b.f n - d by grind)
  grind
theorem not_both {a : Sq} (h : PosS a) (k : PosS (negS a)) : False := by
  obtain ⟨e, e0, N, hN⟩ := h
  obtain ⟨d, d0, M, hM⟩ := k
  have h1 := hN (max N M) (by omega)
  have h2 : d < - a.f (max N M) := hM (max N M) (by omega)
  grind
namespace Real
def Pos : Real → Prop := Quotient.lift PosS fun _ _ h => propext ⟨pos_eqv h, pos_eqv h.symm⟩
theorem tri (a : Real) : Pos a ∨ a = 0 ∨ Pos (-a) := Quotient.inductionOn a fun a => by
  rcases Rl.tri a with h | h | h
  · exact .inl h
  · exact .inr (.inl (Quotient.sound (s := sqd) (by
      have e : cst 0 = cst ((0 : Nat) : Rat) := rfl
      rw [e] at h
      exact h)))
  · exact .inr (.inr h)
theorem pos_add {a b : Real} : Pos a → Pos b → Pos (a + b) := Quotient.inductionOn₂ a b fun _ _ => Rl.pos_add
theorem pos_mul {a b : Real} : Pos a → Pos b → Pos (a * b) := Quotient.inductionOn₂ a b fun _ _ => Rl.pos_mul
theorem not_both {a : Real} : Pos a → Pos (-a) → False := Quotient.inductionOn a fun _ => Rl.not_both
theorem not_pos0 : ¬ Pos 0 := fun h => not_both h (by
  have : (-0 : Real) = 0 := by grind
  rw [this]; exact h)
theorem pos_of {q : Rat} : Pos (of q) ↔ 0 < q := ⟨fun h => by
  obtain ⟨e, e0, N, hN⟩ := h
  have : e < q := hN N (Nat.le_refl _)
  grind, fun h => by
  obtain ⟨d, d0, dd⟩ := half h
  exact ⟨d, d0, 0, fun n _ => by show d < q; grind⟩⟩
instance : LT Real := ⟨fun a b => Pos (b - a)⟩
instance : LE Real := ⟨fun a b => ¬ Pos (a - b)⟩
theorem lt_def {a b : Real} : a < b ↔ Pos (b - a) := Iff.rfl
theorem le_def {a b : Real} : a ≤ b ↔ ¬ Pos (a - b) := Iff.rfl
theorem not_lt' {a b : Real} : ¬ a < b ↔ b ≤ a := Iff.rfl
theorem tri' (a b : Real) : a < b ∨ a = b ∨ b < a := by
  rcases tri (b - a) with h | h | h
  · exact .inl h
  · exact .inr (.inl (by grind))
  · refine .inr (.inr ?_)
    rw [lt_def, show a - b = -(b - a) by grind]
    exact h
theorem asym {a b : Real} (h : a < b) (k : b < a) : False := by
  refine not_both h ?_
  rw [show -(b - a) = a - b by grind]
  exact k
theorem tr {a b c : Real} (h : a < b) (k : b < c) : a < c := by
  rw [lt_def, show c - a = (b - a) + (c - b) by grind]
  exact pos_add h k
instance lin : Std.IsLinearOrder Real where
  le_refl a := by
    rw [le_def, show a - a = 0 by grind]
    exact not_pos0
  le_trans a b c h k := fun (x : c < a) => by
    rcases tri' a b with y | y | y
    · rcases tri' b c with z | z | z
      · exact asym (tr y z) x
      · subst z; exact asym y x
      · exact k z
    · subst y; exact k x
    · exact h y
  le_antisymm a b h k := by
    rcases tri' a b with y | y | y
    · exact absurd y k
    · exact y
    · exact absurd y h
  le_total a b := by
    rcases tri' a b with y | y | y
    · exact .inl fun z => asym y z
    · subst y; exact .inl fun z => asym z z
    · exact .inr fun z => asym y z
instance : Std.LawfulOrderLT Real where
  lt_iff a b := ⟨fun h => ⟨fun z => asym h z, fun z => z h⟩, fun h => by
    rcases tri' a b with y | y | y
    · exact y
    · subst y; exact absurd (fun z => asym z z) h.2
    · exact absurd y h.1⟩
instance : Lean.Grind.OrderedRing Real where
  add_le_left_iff {a b} c := by
    rw [le_def, le_def, show a + c - (b + c) = a - b by grind]
  zero_lt_one := by
    rw [lt_def, show (1 : Real) - 0 = 1 by grind]
    exact (pos_of (q := ((1 : Nat) : Rat))).mpr (by decide)
  mul_lt_mul_of_pos_left {a b c} h k := by
    rw [lt_def, show c * b - c * a = (c - 0) * (b - a) by grind]
    exact pos_mul k h
  mul_lt_mul_of_pos_right {a b c} h k := by
    rw [lt_def, show b * c - a * c = (c - 0) * (b - a) by grind]
    exact pos_mul k h
theorem of_sub (a b : Rat) : of (a - b) = of a - of b := by rw [Rat.sub_eq_add_neg, of_add, of_neg]; grind
theorem of_lt {a b : Rat} : of a < of b ↔ a < b := by
  rw [lt_def, ← of_sub, pos_of]
  exact ⟨fun h => by grind, fun h => by grind⟩
theorem of_le {a b : Rat} : of a ≤ of b ↔ a ≤ b := by
  rw [← not_lt', of_lt, Rat.not_lt]
theorem of_inj {a b : Rat} : of a = of b ↔ a = b := ⟨fun h => Rat.le_antisymm (of_le.mp (by grind)) (of_le.mp (by grind)), fun h => by rw [h]⟩
theorem of_zero : of 0 = 0 := rfl
theorem of_one : of 1 = 1 := rfl
theorem mul_pos {a b : Real} (h : 0 < a) (k : 0 < b) : 0 < a * b := by
  rw [lt_def, show a * b - 0 = (a - 0) * (b - 0) by grind]
  exact pos_mul h k
theorem mul_zero' {a b : Real} (h : a * b = 0) : a = 0 ∨ b = 0 := by
  rcases tri' a 0 with x | x | x
  · rcases tri' b 0 with y | y | y
    · have := mul_pos (show 0 < -a by grind) (show 0 < -b by grind); grind
    · exact .inr y
    · have := mul_pos (show 0 < -a by grind) y; grind
  · exact .inl x
  · rcases tri' b 0 with y | y | y
    · have := mul_pos x (show 0 < -b by grind); grind
    · exact .inr y
    · have := mul_pos x y; grind
theorem sq_nn (a : Real) : 0 ≤ a * a := by
  rcases tri' a 0 with x | x | x
  · have := mul_pos (show 0 < -a by grind) (show 0 < -a by grind); grind
  · subst x; grind
  · have := mul_pos x x; grind
theorem sq_inj {a b : Real} (ha : 0 ≤ a) (hb : 0 ≤ b) (h : a * a = b * b) : a = b := by
  rcases mul_zero' (show (a - b) * (a + b) = 0 by grind) with x | x <;> grind
end Real
end Rl

namespace Rl
open Lb
theorem rat_lt_or_le (a b : Rat) : a < b ∨ b ≤ a := by
  by_cases h : a < b
  · exact .inl h
  · exact .inr (Rat.not_lt.mp h)
/-! ### square roots of fractions -/
def dn (n : Nat) : Rat := 1 / ((n + 1 : Nat) : Rat)
theorem succ_pos (n : Nat) : (0 : Rat) < ((n + 1 : Nat) : Rat) := by
  have : ((0 : Int) : Rat) < ((n + 1 : Nat) : Rat) := Rat.intCast_lt_intCast.mpr (show (0 : Int) < ((n + 1 : Nat) : Int) by omega)
  exact this
theorem dn_mul (n : Nat) : dn n * ((n + 1 : Nat) : Rat) = 1 := Rat.div_mul_cancel (fun z => by have := succ_pos n; rw [z] at this; exact absurd this (by decide))
theorem pos_left {a b : Rat} (hb : 0 < b) (h : 0 < a * b) : 0 < a := by
  rcases rat_lt_or_le 0 a with z | z
  · exact z
  · have := Rat.mul_nonneg (show 0 ≤ -a by grind) (Rat.le_of_lt hb)
    grind
theorem dn_pos (n : Nat) : 0 < dn n := pos_left (succ_pos n) (by rw [dn_mul]; decide)
theorem dn_le {N n : Nat} (h : N ≤ n) : dn n ≤ dn N := by
  have h1 := dn_mul N
  have h2 := dn_mul n
  have hc : ((N + 1 : Nat) : Rat) ≤ ((n + 1 : Nat) : Rat) := Rat.natCast_le_natCast.mpr (by omega)
  have p := Rat.mul_nonneg (Rat.le_of_lt (dn_pos n)) (show 0 ≤ ((n + 1 : Nat) : Rat) - ((N + 1 : Nat) : Rat) by grind)
  have q := succ_pos N
  have : 0 ≤ (dn N - dn n) * ((N + 1 : Nat) : Rat) := by grind
  rcases rat_lt_or_le (dn N) (dn n) with z | z
  · have := Rat.mul_pos (show 0 < dn n - dn N by grind) q
    grind
  · exact z
theorem arch {e : Rat} (h : 0 < e) : ∃ N, dn N < e := by
  refine ⟨e.den, ?_⟩
  have h1 := dn_mul e.den
  have hp := succ_pos e.den
  have en := num_den e
  have n1 : (1 : Rat) ≤ ((e.num : Int) : Rat) := by
    have a : 0 ≤ e.num := Rat.num_nonneg.mpr (Rat.le_of_lt h)
    have b : e.num ≠ 0 := fun z => by have := Rat.num_eq_zero.mp z; rw [this] at h; exact absurd h (by decide)
    have : ((1 : Int) : Rat) ≤ ((e.num : Int) : Rat) := Rat.intCast_le_intCast.mpr (by omega)
    exact this
  have ec : ((e.den + 1 : Nat) : Rat) = ((e.den : Int) : Rat) + 1 := by rw [Rat.natCast_add]; rfl
  rw [ec] at h1 hp
  have := pos_left hp (a := e - dn e.den) (by grind)
  grind
theorem sq_le {x y : Rat} (hx : 0 ≤ x) (hy : 0 ≤ y) (h : x * x ≤ y * y) : x ≤ y := by
  rcases rat_lt_or_le y x with z | z
  · have := Rat.mul_pos (show 0 < x - y by grind) (show 0 < x + y by grind)
    grind
  · exact z
theorem approx {q : Rat} (h : 0 ≤ q) (n : Nat) : ∃ r : Rat, 0 ≤ r ∧ r * r ≤ q ∧ q < (r + dn n) * (r + dn n) := by
  obtain ⟨h1, h2⟩ := isq_spec (q.num.toNat * q.den * ((n + 1) * (n + 1)))
  generalize isq (q.num.toNat * q.den * ((n + 1) * (n + 1))) = m at h1 h2
  have hn := Rat.num_nonneg.mpr h
  have en := num_den q
  have e1 : ((q.num.toNat : Nat) : Rat) = ((q.num : Int) : Rat) := by
    have : ((q.num.toNat : Nat) : Int) = q.num := by omega
    rw [← this]; rfl
  have b0 : (0 : Rat) < ((q.den : Nat) : Rat) := Rat.natCast_pos.mpr q.den_pos
  have b1 : (1 : Rat) ≤ ((q.den : Nat) : Rat) := by
    have : ((1 : Nat) : Rat) ≤ ((q.den : Nat) : Rat) := Rat.natCast_le_natCast.mpr q.den_pos
    exact this
  have k0 := succ_pos n
  have en' : q * ((q.den : Nat) : Rat) = ((q.num : Int) : Rat) := en
  have H1 : ((m : Nat) : Rat) * m ≤ ((q.num : Int) : Rat) * ((q.den : Nat) : Rat) * (((n + 1 : Nat) : Rat) * ((n + 1 : Nat) : Rat)) := by
    rw [← e1, ← Rat.natCast_mul, ← Rat.natCast_mul, ← Rat.natCast_mul, ← Rat.natCast_mul]
    exact Rat.natCast_le_natCast.mpr h1
  have H2 : ((q.num : Int) : Rat) * ((q.den : Nat) : Rat) * (((n + 1 : Nat) : Rat) * ((n + 1 : Nat) : Rat)) < (((m : Nat) : Rat) + 1) * (((m : Nat) : Rat) + 1) := by
    have ec : ((m : Nat) : Rat) + 1 = ((m + 1 : Nat) : Rat) := by rw [Rat.natCast_add]; rfl
    rw [ec, ← e1, ← Rat.natCast_mul, ← Rat.natCast_mul, ← Rat.natCast_mul, ← Rat.natCast_mul]
    exact Rat.natCast_lt_natCast.mpr h2
  have m0 : (0 : Rat) ≤ ((m : Nat) : Rat) := Rat.natCast_nonneg
  have dm := dn_mul n
  have dp := dn_pos n
  generalize ((m : Nat) : Rat) = M at *
  generalize ((n + 1 : Nat) : Rat) = K at *
  generalize ((q.den : Nat) : Rat) = B at *
  generalize ((q.num : Int) : Rat) = A at *
  generalize dn n = d at *
  have D0 : 0 < B * K := Rat.mul_pos b0 k0
  have rD : M / (B * K) * (B * K) = M := Rat.div_mul_cancel (fun z => by rw [z] at D0; exact absurd D0 (by decide))
  generalize M / (B * K) = r at rD
  have r0 : 0 ≤ r := by
    rcases rat_lt_or_le r 0 with z | z
    · have := Rat.mul_pos (show 0 < -r by grind) D0
      grind
    · exact z
  have DD : 0 < (B * K) * (B * K) := Rat.mul_pos D0 D0
  have eq : q * ((B * K) * (B * K)) = A * B * (K * K) := by grind
  refine ⟨r, r0, ?_, ?_⟩
  · rcases rat_lt_or_le q (r * r) with z | z
    · have := Rat.mul_pos (show 0 < r * r - q by grind) DD
      have e : r * r * ((B * K) * (B * K)) = M * M := by rw [← rD]; grind
      grind
    · exact z
  · have h3 : d * (B * K) = B := by
      have : d * (B * K) = B * (d * K) := by grind
      rw [this, dm, Rat.mul_one]
    have e : (r + d) * (r + d) * ((B * K) * (B * K)) = (M + B) * (M + B) := by
      have : (r + d) * (r + d) * ((B * K) * (B * K)) = (r * (B * K) + d * (B * K)) * (r * (B * K) + d * (B * K)) := by grind
      rw [this, rD, h3]
    have h4 : (M + 1) * (M + 1) ≤ (M + B) * (M + B) := by
      have := Rat.mul_nonneg (show 0 ≤ B - 1 by grind) (show 0 ≤ (M + B) + (M + 1) by grind)
      grind
    rcases rat_lt_or_le q ((r + d) * (r + d)) with z | z
    · exact z
    · have := Rat.mul_nonneg (show 0 ≤ q - (r + d) * (r + d) by grind) (Rat.le_of_lt DD)
      grind
noncomputable def apx (q : Rat) (h : 0 ≤ q) (n : Nat) : Rat := Classical.choose (approx h n)
theorem apx_spec {q : Rat} (h : 0 ≤ q) (n : Nat) : 0 ≤ apx q h n ∧ apx q h n * apx q h n ≤ q ∧ q < (apx q h n + dn n) * (apx q h n + dn n) := Classical.choose_spec (approx h n)
theorem lt_next {x y d q : Rat} (hx : 0 ≤ x) (hy : 0 ≤ y) (hd : 0 < d) (h1 : x * x ≤ q) (h2 : q < (y + d) * (y + d)) : x < y + d := by
  rcases rat_lt_or_le x (y + d) with z | z
  · exact z
  · have := Rat.mul_nonneg (show 0 ≤ x - (y + d) by grind) (show 0 ≤ x + (y + d) by grind)
    grind
noncomputable def rootS (q : Rat) (h : 0 ≤ q) : Sq := ⟨apx q h, fun e he => by
  obtain ⟨N, hN⟩ := arch he
  refine ⟨N, fun m n hm hn => ?_⟩
  obtain ⟨a0, a1, a2⟩ := apx_spec h m
  obtain ⟨b0, b1, b2⟩ := apx_spec h n
  have := lt_next a0 b0 (dn_pos n) a1 b2
  have := dn_le hn
  grind⟩
theorem sqrt_ex {q : Rat} (h : 0 ≤ q) : ∃ x : Real, 0 ≤ x ∧ x * x = Real.of q := by
  refine ⟨Real.mk (rootS q h), ?_, ?_⟩
  · rw [Real.le_def]
    rintro ⟨e, e0, N, hN⟩
    have h1 : e < ((0 : Nat) : Rat) + - apx q h N := hN N (Nat.le_refl _)
    have := (apx_spec h N).1
    have z : ((0 : Nat) : Rat) = 0 := rfl
    grind
  · refine Quotient.sound (s := sqd) fun e he => ?_
    have cp : 0 < 2 * q + 5 := by grind
    obtain ⟨d, d0, ed⟩ := part cp he
    obtain ⟨N, hN⟩ := arch d0
    refine ⟨N, fun n hn => ?_⟩
    obtain ⟨a0, a1, a2⟩ := apx_spec h n
    have dl := dn_le hn
    have dp := dn_pos n
    have d1 : dn n ≤ 1 := by
      have := dn_le (Nat.zero_le n)
      have z : dn 0 = 1 := by decide +kernel
      grind
    show apx q h n * apx q h n - q < e ∧ q - apx q h n * apx q h n < e
    generalize apx q h n = r at *
    generalize dn n = k at *
    have rq : r ≤ q + 1 := by
      have := sq_nonneg (q + 1)
      refine sq_le a0 (by grind) ?_
      have := Rat.mul_nonneg h h
      grind
    refine ⟨by grind, ?_⟩
    have t1 := Rat.mul_nonneg (Rat.le_of_lt dp) (show 0 ≤ q + 1 - r by grind)
    have t2 := Rat.mul_nonneg (Rat.le_of_lt dp) (show 0 ≤ 1 - k by grind)
    have t3 := Rat.mul_pos cp (show 0 < d - k by grind)
    grind
noncomputable def rtq (q : Rat) : Real := open Classical in if h : 0 ≤ q then Classical.choose (sqrt_ex h) else 0
theorem rtq_nn (q : Rat) : 0 ≤ rtq q := by
  unfold rtq
  split
  · rename_i h
    exact (Classical.choose_spec (sqrt_ex h)).1
  · grind
theorem rtq_sq {q : Rat} (h : 0 ≤ q) : rtq q * rtq q = Real.of q := by
  unfold rtq
  rw [dif_pos h]
  exact (Classical.choose_spec (sqrt_ex h)).2
noncomputable def val (x : Rt) : Real := Real.of x.b + Real.of (x.s : Rat) * rtq x.q
end Rl

namespace Rl
open Lb
/-! ### signs -/
open Classical in
noncomputable def sg (x : Real) : Int := if 0 < x then 1 else if x < 0 then -1 else 0
theorem sg_pos {x : Real} (h : 0 < x) : sg x = 1 := if_pos h
theorem sg_neg {x : Real} (h : x < 0) : sg x = -1 := by
  unfold sg
  rw [if_neg (fun z => Real.asym h z), if_pos h]
theorem sg_zero {x : Real} (h : x = 0) : sg x = 0 := by
  unfold sg
  rw [if_neg (fun z => by grind), if_neg (fun z => by grind)]
theorem sg_cases (x : Real) : (0 < x ∧ sg x = 1) ∨ (x = 0 ∧ sg x = 0) ∨ (x < 0 ∧ sg x = -1) := by
  rcases Real.tri' x 0 with h | h | h
  · exact .inr (.inr ⟨h, sg_neg h⟩)
  · exact .inr (.inl ⟨h, sg_zero h⟩)
  · exact .inl ⟨h, sg_pos h⟩
theorem sg_mul {k x : Real} (hk : 0 < k) : sg (k * x) = sg x := by
  rcases sg_cases x with ⟨h, e⟩ | ⟨h, e⟩ | ⟨h, e⟩ <;> rw [e]
  · exact sg_pos (Real.mul_pos hk h)
  · exact sg_zero (by rw [h]; grind)
  · have := Real.mul_pos hk (show 0 < -x by grind)
    exact sg_neg (by grind)
theorem sg_flip (x : Real) : sg (-x) = - sg x := by
  rcases sg_cases x with ⟨h, e⟩ | ⟨h, e⟩ | ⟨h, e⟩ <;> rw [e]
  · exact sg_neg (by grind)
  · exact sg_zero (by grind)
  · exact sg_pos (by grind)
theorem int_pos {i : Int} : 0 < Real.of (i : Rat) ↔ 0 < i := by
  rw [← Real.of_zero, Real.of_lt]
  exact Rat.intCast_pos
theorem int_neg {i : Int} : Real.of (i : Rat) < 0 ↔ i < 0 := by
  rw [← Real.of_zero, Real.of_lt]
  exact Rat.intCast_neg_iff
theorem int_zero {i : Int} : Real.of (i : Rat) = 0 ↔ i = 0 := by
  rw [← Real.of_zero, Real.of_inj]
  exact Rat.intCast_eq_zero_iff
theorem sg_int (i : Int) : sg (Real.of (i : Rat)) = i.sign := by
  rcases Int.lt_trichotomy i 0 with h | h | h
  · rw [sg_neg (int_neg.mpr h), Int.sign_eq_neg_one_of_neg h]
  · rw [sg_zero (int_zero.mpr h), h]; rfl
  · rw [sg_pos (int_pos.mpr h), Int.sign_eq_one_of_pos h]
theorem of_int_mul (i j : Int) : Real.of ((i * j : Int) : Rat) = Real.of (i : Rat) * Real.of (j : Rat) := by rw [Rat.intCast_mul, Real.of_mul]
theorem of_int_sub (i j : Int) : Real.of ((i - j : Int) : Rat) = Real.of (i : Rat) - Real.of (j : Rat) := by rw [Rat.intCast_sub, Real.of_sub]
/-- the sign of a number and one times the square root of a third -/
theorem field_law {t b h : Int} (h0 : 0 ≤ h) : sg (Real.of (t : Rat) + Real.of (b : Rat) * rtq (h : Rat)) = if t.sign * b.sign ≥ 0 ∨ h = 0 then (if h = 0 then t.sign else (t.sign + b.sign).sign) else t.sign * (t * t - b * b * h).sign := by
  have r0 := rtq_nn (h : Rat)
  have r2 := rtq_sq (q := (h : Rat)) (Rat.intCast_nonneg.mpr h0)
  by_cases hz : h = 0
  · rw [if_pos (.inr hz), if_pos hz]
    have : rtq (h : Rat) = 0 := by
      rw [hz] at r2 ⊢
      rcases Real.mul_zero' (show rtq ((0 : Int) : Rat) * rtq ((0 : Int) : Rat) = 0 by rw [r2]; rfl) with z | z <;> exact z
    rw [this, show Real.of (t : Rat) + Real.of (b : Rat) * 0 = Real.of (t : Rat) by grind, sg_int]
  · have hp : 0 < rtq (h : Rat) := by
      rcases Real.tri' 0 (rtq (h : Rat)) with z | z | z
      · exact z
      · rw [← z, show (0 : Real) * 0 = 0 by grind] at r2
        exact absurd (int_zero.mp r2.symm) hz
      · grind
    have e : sg (Real.of ((t * t - b * b * h : Int) : Rat)) = (t * t - b * b * h).sign := sg_int _
    rw [of_int_sub, of_int_mul, of_int_mul, of_int_mul, ← r2] at e
    rcases Int.lt_trichotomy t 0 with ht | ht | ht
    · have t1 := Int.sign_eq_neg_one_of_neg ht
      have tr := int_neg.mpr ht
      rcases Int.lt_trichotomy b 0 with hb | hb | hb
      · have b1 := Int.sign_eq_neg_one_of_neg hb
        have br := int_neg.mpr hb
        rw [t1, b1, if_pos (.inl (by decide)), if_neg hz]
        have := Real.mul_pos (show 0 < - Real.of (b : Rat) by grind) hp
        exact sg_neg (by grind)
      · rw [t1, hb, if_pos (.inl (by decide)), if_neg hz]
        have : Real.of ((0 : Int) : Rat) = 0 := rfl
        exact sg_neg (by rw [this]; grind)
      · have b1 := Int.sign_eq_one_of_pos hb
        have br := int_pos.mpr hb
        rw [t1, b1, if_neg (by rintro (z | z); exact absurd z (by decide); exact hz z), ← e]
        have pp := Real.mul_pos br hp
        generalize Real.of (t : Rat) = T at *
        generalize Real.of (b : Rat) = B at *
        generalize rtq (h : Rat) = r at *
        rw [show T * T - B * B * (r * r) = (B * r - T) * (-(T + B * r)) by grind, sg_mul (by grind), sg_flip]
        omega
    · rw [ht, if_pos (.inl (by simp)), if_neg hz]
      have z0 : Real.of ((0 : Int) : Rat) = 0 := rfl
      rw [z0, show (0 : Real) + Real.of (b : Rat) * rtq (h : Rat) = rtq (h : Rat) * Real.of (b : Rat) by grind, sg_mul hp, sg_int]
      simp
    · have t1 := Int.sign_eq_one_of_pos ht
      have tr := int_pos.mpr ht
      rcases Int.lt_trichotomy b 0 with hb | hb | hb
      · have b1 := Int.sign_eq_neg_one_of_neg hb
        have br := int_neg.mpr hb
        rw [t1, b1, if_neg (by rintro (z | z); exact absurd z (by decide); exact hz z), ← e]
        have pp := Real.mul_pos (show 0 < - Real.of (b : Rat) by grind) hp
        generalize Real.of (t : Rat) = T at *
        generalize Real.of (b : Rat) = B at *
        generalize rtq (h : Rat) = r at *
        rw [show T * T - B * B * (r * r) = (T - B * r) * (T + B * r) by grind, sg_mul (by grind)]
        omega
      · rw [t1, hb, if_pos (.inl (by decide)), if_neg hz]
        have : Real.of ((0 : Int) : Rat) = 0 := rfl
        exact sg_pos (by rw [this]; grind)
      · have b1 := Int.sign_eq_one_of_pos hb
        have br := int_pos.mpr hb
        rw [t1, b1, if_pos (.inl (by decide)), if_neg hz]
        have := Real.mul_pos br hp
        exact sg_pos (by grind)
end Rl

namespace Rl
open Lb
theorem of_nn {q : Rat} (h : 0 ≤ q) : 0 ≤ Real.of q := by
  rw [← Real.of_zero, Real.of_le]; exact h
theorem of_pos {q : Rat} (h : 0 < q) : 0 < Real.of q := by
  rw [← Real.of_zero, Real.of_lt]; exact h
theorem mul_nn' {a b : Real} (ha : 0 ≤ a) (hb : 0 ≤ b) : 0 ≤ a * b := by
  rcases Real.tri' 0 a with h | h | h
  · rcases Real.tri' 0 b with k | k | k
    · have := Real.mul_pos h k; grind
    · rw [← k]; grind
    · grind
  · rw [← h]; grind
  · grind
theorem rtq_uniq {q : Rat} {x : Real} (h0 : 0 ≤ q) (hx : 0 ≤ x) (h : x * x = Real.of q) : rtq q = x := Real.sq_inj (rtq_nn q) hx (by rw [rtq_sq h0, h])
theorem rtq_zero : rtq 0 = 0 := rtq_uniq (by decide) (by grind) (by rw [Real.of_zero]; grind)
theorem rtq_scale {q g : Rat} (h0 : 0 ≤ q) (hg : 0 ≤ g) : rtq (q * (g * g)) = rtq q * Real.of g := by
  refine rtq_uniq (Rat.mul_nonneg h0 (Rat.mul_nonneg hg hg)) (mul_nn' (rtq_nn q) (of_nn hg)) ?_
  rw [Real.of_mul, Real.of_mul, ← rtq_sq h0]
  grind
theorem rtq_pos {q : Rat} (h : 0 < q) : 0 < rtq q := by
  rcases Real.tri' 0 (rtq q) with z | z | z
  · exact z
  · have e := rtq_sq (Rat.le_of_lt h)
    rw [← z] at e
    have := of_pos h
    grind
  · have := rtq_nn q
    grind
theorem rtq_sqb {q : Rat} (h0 : 0 ≤ q) (h : sqb q) : rtq q = Real.of (sqr q) := rtq_uniq h0 (of_nn (sqr_nonneg q)) (by rw [← Real.of_mul, sqr_mul h])
theorem val_mk (b : Rat) (s : Int) (q : Rat) : val ⟨b, s, q⟩ = Real.of b + Real.of (s : Rat) * rtq q := rfl
theorem of_int0 : Real.of ((0 : Int) : Rat) = 0 := rfl
theorem of_int1 : Real.of ((1 : Int) : Rat) = 1 := rfl
theorem of_intm1 : Real.of ((-1 : Int) : Rat) = -1 := by
  have := Real.of_neg 1
  rw [Real.of_one] at this
  exact this
theorem canon_val {b q : Rat} {s : Int} (h0 : 0 ≤ q) : val (canon b s q) = Real.of b + Real.of (s : Rat) * rtq q := by
  unfold canon
  split
  · rename_i h
    rw [val_mk, of_int0]
    rcases h with h | h
    · rw [h, of_int0]; grind
    · rw [h, rtq_zero]; grind
  · split
    · rename_i h
      rw [val_mk, of_int0, rtq_sqb h0 h, Real.of_add, Real.of_mul]
      grind
    · rfl
/-- the sign of a root, in whole numbers -/
theorem root_law (x : Rt) (h0 : 0 ≤ x.q) : sg (val x) = sg (Real.of ((x.b.num * x.q.den * x.q.den : Int) : Rat) + Real.of ((x.s * (x.b.den * x.q.den) : Int) : Rat) * rtq ((x.q.num * x.q.den : Int) : Rat)) := by
  have eb := num_den x.b
  have eq := num_den x.q
  have bd : (0 : Rat) < ((x.b.den : Int) : Rat) := Rat.intCast_pos.mpr (by have := x.b.den_pos; omega)
  have qd : (0 : Rat) < ((x.q.den : Int) : Rat) := Rat.intCast_pos.mpr (by have := x.q.den_pos; omega)
  have e1 : ((x.q.num * x.q.den : Int) : Rat) = x.q * (((x.q.den : Int) : Rat) * ((x.q.den : Int) : Rat)) := by
    rw [Rat.intCast_mul, ← eq]; grind
  rw [e1, rtq_scale h0 (Rat.le_of_lt qd)]
  have e2 : ((x.b.num * x.q.den * x.q.den : Int) : Rat) = x.b * (((x.b.den : Int) : Rat) * (((x.q.den : Int) : Rat) * ((x.q.den : Int) : Rat))) := by
    rw [Rat.intCast_mul, Rat.intCast_mul, ← eb]; grind
  have e3 : ((x.s * (x.b.den * x.q.den) : Int) : Rat) = (x.s : Rat) * (((x.b.den : Int) : Rat) * ((x.q.den : Int) : Rat)) := by
    rw [Rat.intCast_mul, Rat.intCast_mul]
  rw [e2, e3]
  unfold val
  have p := Real.mul_pos (of_pos bd) (Real.mul_pos (of_pos qd) (of_pos qd))
  rw [← sg_mul p]
  congr 1
  simp only [Real.of_mul]
  grind
/-- a root as it is told -/
structure Ok (x : Rt) : Prop where
  q0 : 0 ≤ x.q
  s : x.s = -1 ∨ x.s = 0 ∨ x.s = 1
  z : x.s = 0 → x.q = 0
  p : x.s ≠ 0 → 0 < x.q
theorem s_sq {x : Rt} (h : Ok x) : Real.of (x.s : Rat) * Real.of (x.s : Rat) * (rtq x.q * rtq x.q) = Real.of x.q := by
  rw [rtq_sq h.q0]
  rcases h.s with e | e | e
  · rw [e, of_intm1]; grind
  · rw [e, h.z e, of_int0, Real.of_zero]; grind
  · rw [e, of_int1]; grind
end Rl

namespace Lr
open PySem PySem.Spec PyProof.Rows L2 Bl Lb Rl
local macro_rules | `(tactic| walk_at "bl0") => `(tactic| (with_reducible (first
  | (refine Go.gVr ?_; first | refine Go.vr0 ?_ | refine Go.vr1 ?_ | refine Go.vr2 ?_ | refine Go.vr3 ?_ | refine Go.vr4 ?_ | refine Go.vr5 ?_ | refine Go.vr6 ?_ | refine Go.vr7 ?_ | refine Go.vr8 ?_ | refine Go.vr9 ?_ | refine Go.vr10 ?_ | refine Go.vr11 ?_ | refine Go.vr12 ?_ | refine Go.vr13 ?_ | refine Go.vr14 ?_ | refine Go.vr15 ?_ | refine Go.vr16 ?_ | refine Go.vr17 ?_ | refine Go.vr18 ?_ | refine Go.vr19 ?_ | refine Go.vr20 ?_ | refine Go.vr21 ?_ | refine Go.vr22 ?_ | refine Go.vr23 ?_)
  | refine Go.seq ?_
  | refine Go.nx' ?_
  | refine Go.ret ?_
  | refine Go.if' ?_
  | refine Go.asg ?_
  | refine Go.par ?_
  | refine Go.drop ?_
  | refine Go.brk ?_
  | refine Go.cnt ?_
  | refine Go.raise ?_
  | refine Go.thru ?_
  | refine Go.tryAs ?_
  | refine Go.for' ?_
  | refine Go.sub ?_
  | refine Go.retN ?_
  | refine Go.par_cons ?_
  | refine Go.par_nil ?_
  | refine Go.cn' ?_
  | refine Go.two ?_
  | refine Go.nil ?_
  | refine Go.cons ?_
  | refine Go.tup ?_
  | refine Go.lst ?_
  | refine Go.lstR ?_
  | refine Go.tbl' ?_
  | refine Go.tblK' ?_
  | refine Go.ttr' ?_
  | refine Go.truB ?_
  | refine Go.truI ?_
  | refine Go.truN ?_
  | refine Go.and' ?_
  | refine Go.or' ?_
  | refine Go.not' ?_
  | refine Go.vOf' ?_
  | refine Go.vNot' ?_
  | refine Go.eIf' ?_
  | refine Go.ifT ?_
  | refine Go.ifF ?_
  | refine Go.ifN ?_
  | refine Go.add ?_
  | refine Go.sub' ?_
  | refine Go.lt ?_
  | refine Go.le ?_
  | refine Go.gt ?_
  | refine Go.ge ?_
  | refine Go.eqI ?_
  | refine Go.neI ?_
  | refine Go.is' ?_
  | refine Go.isNot' ?_
  | refine Go.chain ?_
  | refine Go.dB' ?_
  | refine Go.neg ?_
  | refine Go.neg' ?_
  | refine Go.abs' ?_
  | refine Go.lenT ?_
  | refine Go.lenL ?_
  | refine Go.max' ?_
  | refine Go.min' ?_
  | refine Go.intI ?_
  | refine Go.intB ?_
  | refine Go.tupL ?_
  | refine Go.tupT ?_
  | refine Go.isi ?_
  | refine Go.call ?_
  | refine Go.iVal' ?_
  | refine Go.iValT ?_
  | refine Go.iValL ?_
  | refine Go.r1 ?_
  | refine Go.r2 ?_
  | refine Go.star ?_
  | refine Go.l_cons ?_
  | refine Go.l_nil ?_
  | refine Go.enum' ?_
  | refine Go.rev' ?_
  | refine Go.zip' ?_
  | refine Go.wipe_nil ?_
  | refine Go.wipe_cons ?_
  | refine Go.iadd ?_
  | refine Go.sl ?_
  | refine Go.oN ?_
  | refine Go.oS ?_
  | refine Go.osK' ?_
  | refine Go.getL ?_
  | refine Go.lc ?_
  | refine Go.lcR ?_
  | refine Go.lg_nil ?_
  | refine Go.lg_cons ?_
  | refine Go.yes ?_
  | refine Go.for_nil ?_
  | refine Go.for_cons ?_
  | refine Go.revT ?_
  | refine Go.revL ?_
  | refine Go.zipT ?_
  | refine Go.zipL ?_
  | refine Go.tupK' rfl ?_
  | refine Go.lstK' rfl ?_
  | refine Go.callK' rfl rfl ?_
  | refine Go.lcL rfl ?_
  | refine Go.getLL' rfl ?_
  | refine Go.addT rfl ?_
  | (refine Go.gAsg ?_; first | refine Go.set0 ?_ | refine Go.set1 ?_ | refine Go.set2 ?_ | refine Go.set3 ?_ | refine Go.set4 ?_ | refine Go.set5 ?_ | refine Go.set6 ?_ | refine Go.set7 ?_ | refine Go.set8 ?_ | refine Go.set9 ?_ | refine Go.set10 ?_ | refine Go.set11 ?_ | refine Go.set12 ?_ | refine Go.set13 ?_ | refine Go.set14 ?_ | refine Go.set15 ?_ | refine Go.set16 ?_ | refine Go.set17 ?_ | refine Go.set18 ?_ | refine Go.set19 ?_ | refine Go.set20 ?_ | refine Go.set21 ?_ | refine Go.set22 ?_ | refine Go.set23 ?_ | refine Go.tp_cons ?_ | refine Go.tp_nil ?_)
  | (refine Go.gIxT ?_; first | refine Go.ixT0 ?_ | refine Go.ixT1 ?_ | refine Go.ixT2 ?_ | refine Go.ixT3 ?_ | refine Go.ixT4 ?_ | refine Go.ixT5 ?_ | refine Go.ixT6 ?_ | refine Go.ixT7 ?_)
  | (refine Go.gIxL ?_; first | refine Go.ixL0 ?_ | refine Go.ixL1 ?_ | refine Go.ixL2 ?_ | refine Go.ixL3 ?_ | refine Go.ixL4 ?_ | refine Go.ixL5 ?_ | refine Go.ixL6 ?_ | refine Go.ixL7 ?_)
  | (refine Go.gAug ?_; first | refine Go.aug0 ?_ | refine Go.aug1 ?_ | refine Go.aug2 ?_ | refine Go.aug3 ?_ | refine Go.aug4 ?_ | refine Go.aug5 ?_ | refine Go.aug6 ?_ | refine Go.aug7 ?_ | refine Go.aug8 ?_ | refine Go.aug9 ?_ | refine Go.aug10 ?_ | refine Go.aug11 ?_ | refine Go.aug12 ?_ | refine Go.aug13 ?_ | refine Go.aug14 ?_ | refine Go.aug15 ?_ | refine Go.aug16 ?_ | refine Go.aug17 ?_ | refine Go.aug18 ?_ | refine Go.aug19 ?_ | refine Go.aug20 ?_ | refine Go.aug21 ?_ | refine Go.aug22 ?_ | refine Go.aug23 ?_)
  | (refine Go.gStar ?_; first | refine Go.startup0 ?_ | refine Go.starlst0 ?_ | refine Go.startup1 ?_ | refine Go.starlst1 ?_ | refine Go.startup2 ?_ | refine Go.starlst2 ?_ | refine Go.startup3 ?_ | refine Go.starlst3 ?_ | refine Go.startup4 ?_ | refine Go.starlst4 ?_ | refine Go.startup_2 ?_ | refine Go.starlst_2 ?_ | refine Go.startup_3 ?_ | refine Go.starlst_3 ?_ | refine Go.startup_4 ?_ | refine Go.starlst_4 ?_)
  | refine Go.slfT1 ?_ | refine Go.sltT1 ?_ | refine Go.slfL1 ?_ | refine Go.sltL1 ?_ | refine Go.slfT2 ?_ | refine Go.sltT2 ?_ | refine Go.slfL2 ?_ | refine Go.sltL2 ?_ | refine Go.slfT3 ?_ | refine Go.sltT3 ?_ | refine Go.slfL3 ?_ | refine Go.sltL3 ?_ | refine Go.slfT4 ?_ | refine Go.sltT4 ?_ | refine Go.slfL4 ?_ | refine Go.sltL4 ?_
  | (refine Go.gUns ?_; first | refine Go.uns0 ?_ | refine Go.uns1 ?_ | refine Go.uns2 ?_ | refine Go.uns3 ?_ | refine Go.uns4 ?_ | refine Go.uns5 ?_ | refine Go.uns6 ?_ | refine Go.uns7 ?_ | refine Go.uns8 ?_ | refine Go.uns9 ?_ | refine Go.uns10 ?_ | refine Go.uns11 ?_ | refine Go.uns12 ?_ | refine Go.uns13 ?_ | refine Go.uns14 ?_ | refine Go.uns15 ?_ | refine Go.uns16 ?_ | refine Go.uns17 ?_ | refine Go.uns18 ?_ | refine Go.uns19 ?_ | refine Go.uns20 ?_ | refine Go.uns21 ?_ | refine Go.uns22 ?_ | refine Go.uns23 ?_)
  | refine Go.entup0 ?_ | refine Go.enlst0 ?_ | refine Go.entup1 ?_ | refine Go.enlst1 ?_ | refine Go.entup2 ?_ | refine Go.enlst2 ?_ | refine Go.entup3 ?_ | refine Go.enlst3 ?_ | refine Go.entup4 ?_ | refine Go.enlst4 ?_ | refine Go.entup5 ?_ | refine Go.enlst5 ?_ | refine Go.entup6 ?_ | refine Go.enlst6 ?_)))
local macro_rules | `(tactic| walk_at "bl1") => `(tactic| first | ((with_reducible refine Go.gEqS ?_); (first | refine Go.eqS (b := true) ⟨rfl, by decide +kernel⟩ ⟨rfl, by decide +kernel⟩ rfl ?_ | refine Go.eqS (b := false) ⟨rfl, by decide +kernel⟩ ⟨rfl, by decide +kernel⟩ rfl ?_)) | ((with_reducible refine Go.gNeS ?_); (first | refine Go.neS (b := true) ⟨rfl, by decide +kernel⟩ ⟨rfl, by decide +kernel⟩ rfl ?_ | refine Go.neS (b := false) ⟨rfl, by decide +kernel⟩ ⟨rfl, by decide +kernel⟩ rfl ?_)) | walk_at "bl0" | ((with_reducible refine Go.gAll ?_); (refine Go.allB (by rfl) ?_)) | ((with_reducible refine Go.gIxT ?_); (refine Go.ixT (by rfl) ?_)) | ((with_reducible refine Go.gIxL ?_); (refine Go.ixL (by rfl) ?_)))
local macro_rules | `(tactic| walk_at "bl") => `(tactic| (repeat walk_at "bl1"))
local macro_rules | `(tactic| walk_at "bl0") => `(tactic| (with_reducible (first | refine Go.zipS' ?_ | refine Go.zipR' ?_ | refine Go.seqT ?_ | refine Go.seqL ?_ | refine Go.zipST rfl ?_ | refine Go.zipSL rfl ?_ | refine Go.for_zc ?_ | refine Go.for_zn ?_ | refine Go.lg_zc ?_ | refine Go.lg_zn ?_)))
theorem sign_sm (i : Int) : sm 2 i.sign := by
  rcases Int.lt_trichotomy i 0 with z | z | z
  · rw [Int.sign_eq_neg_one_of_neg z]; exact sm.of (by decide)
  · rw [z]; exact sm.of (by decide)
  · rw [Int.sign_eq_one_of_pos z]; exact sm.of (by decide)
theorem field_sign_spec {t b h : Int} {n : Nat} {S : Sto} {Q : DK} {E : EK} (ht : sm n t) (hb : sm n b) (hh : sm n h) (h0 : 0 ≤ h) (hn : n ≤ 200000) (k : Q (.int (sg (Real.of (t : Rat) + Real.of (b : Rat) * rtq (h : Rat)))) S) : m_field_sign [.int t, .int b, .int h] S Q E := by
  refine e_field_sign ?_
  unfold t_field_sign
  rw [field_law h0] at k
  have st := sign_sm t
  have sb := sign_sm b
  walk_at "bl"
  refine sign_of_spec ?_
  walk_at "bl"
  refine sign_of_spec ?_
  walk_at "bl"
  refine Go.mul (st.cmul sb (by decide)) ?_
  walk_at "bl"
  refine Go.ifD (fun h1 => ?_) fun h1 => ?_
  · rw [if_pos (.inl h1)] at k
    walk_at "bl"
    refine Go.ifD (fun h2 => ?_) fun h2 => ?_
    · rw [if_pos h2] at k
      walk_at "bl"
      exact sign_of_spec k
    · rw [if_neg h2] at k
      walk_at "bl"
      refine sign_of_spec ?_
      walk_at "bl"
      refine sign_of_spec ?_
      walk_at "bl"
      exact sign_of_spec k
  · walk_at "bl"
    refine Go.ifD (fun h2 => ?_) fun h2 => ?_
    · rw [if_pos (.inr h2), if_pos h2] at k
      walk_at "bl"
      refine Go.ifD (fun h3 => ?_) fun h3 => absurd h2 h3
      walk_at "bl"
      exact sign_of_spec k
    · rw [if_neg (fun z => z.elim h1 h2)] at k
      walk_at "bl"
      refine sign_of_spec ?_
      walk_at "bl"
      refine Go.mul (ht.cmul ht (by omega)) ?_
      walk_at "bl"
      refine Go.mul (hb.cmul hb (by omega)) ?_
      walk_at "bl"
      refine Go.mul ((hb.mul hb).cmul hh (by omega)) ?_
      walk_at "bl"
      refine sign_of_spec ?_
      walk_at "bl"
      refine Go.mul (st.cmul (sign_sm _) (by decide)) ?_
      walk_at "bl"
      exact k
theorem root_sign_spec {x : Rt} {n m : Nat} {S : Sto} {Q : DK} {E : EK} (hb : sr n x.b) (hq : sr m x.q) (hs : x.s = -1 ∨ x.s = 0 ∨ x.s = 1) (h0 : 0 ≤ x.q) (hn : n + 2 * m ≤ 20000) (k : Q (.int (sg (val x))) S) : m_root_sign [rt x] S Q E := by
  refine e_root_sign ?_
  unfold t_root_sign
  rw [root_law x h0] at k
  have ss : sm 2 x.s := by unfold sm; omega
  walk_at "bl"
  refine Go.mul (hb.d.cmul hq.d (by omega)) ?_
  walk_at "bl"
  refine Go.mul (hb.n.cmul hq.d (by omega)) ?_
  walk_at "bl"
  refine Go.mul ((hb.n.mul hq.d).cmul hq.d (by omega)) ?_
  walk_at "bl"
  refine Go.mul (ss.cmul (hb.d.mul hq.d) (by omega)) ?_
  walk_at "bl"
  refine Go.mul (hq.n.cmul hq.d (by omega)) ?_
  walk_at "bl"
  exact field_sign_spec (n := n + 2 * m + 4) (((hb.n.mul hq.d).mul hq.d).mono (by omega)) ((ss.mul (hb.d.mul hq.d)).mono (by omega)) ((hq.n.mul hq.d).mono (by omega)) (Int.mul_nonneg (Rat.num_nonneg.mpr h0) (by omega)) (by omega) k
theorem neg_fr (q : Rat) : D.tup [.int (0 - q.num), .int (q.den : Int)] = fr (-q) := by
  rw [show (0 : Int) - q.num = -q.num by omega]
  rfl
end Lr

namespace Rl
open Lb
/-! ### unlike roots are apart -/
theorem mul_lt' {x y B C : Real} (h1 : -B < x) (h2 : x < B) (h3 : -C < y) (h4 : y < C) : -(B * C) < x * y ∧ x * y < B * C := by
  have a := Real.mul_pos (show 0 < B - x by grind) (show 0 < C + y by grind)
  have b := Real.mul_pos (show 0 < B + x by grind) (show 0 < C - y by grind)
  have c := Real.mul_pos (show 0 < B - x by grind) (show 0 < C - y by grind)
  have d := Real.mul_pos (show 0 < B + x by grind) (show 0 < C + y by grind)
  exact ⟨by grind, by grind⟩
/-- the product of the four conjugates, in fractions -/
def nrm4 (d p q : Rat) : Rat := (d * d + p - q) * (d * d + p - q) - 4 * (d * d) * p
theorem nrm4_eq {d p q : Rat} {u v : Real} (hu : u * u = Real.of p) (hv : v * v = Real.of q) : (Real.of d + u - v) * ((Real.of d + u + v) * ((Real.of d - u - v) * (Real.of d - u + v))) = Real.of (nrm4 d p q) := by
  have four : Real.of 4 = 4 := rfl
  unfold nrm4
  simp only [Real.of_sub, Real.of_mul, Real.of_add, ← hu, ← hv, four]
  grind
/-- it is a whole number by this one -/
theorem nrm4_int (d p q : Rat) : ∃ Z : Int, nrm4 d p q * (((d.den : Int) * d.den * (p.den * q.den) * (d.den * d.den * (p.den * q.den)) : Int) : Rat) = (Z : Rat) := by
  have h1 := num_den d
  have h2 := num_den p
  have h3 := num_den q
  refine ⟨(d.num * d.num * (p.den * q.den) + p.num * (d.den * d.den * q.den) - q.num * (d.den * d.den * p.den)) * (d.num * d.num * (p.den * q.den) + p.num * (d.den * d.den * q.den) - q.num * (d.den * d.den * p.den)) - 4 * (d.num * d.num) * (p.num * (d.den * d.den * (p.den * (q.den * q.den)))), ?_⟩
  simp only [Rat.intCast_sub, Rat.intCast_mul, Rat.intCast_add, ← h1, ← h2, ← h3]
  have four : ((4 : Int) : Rat) = 4 := rfl
  rw [four]
  unfold nrm4
  grind
theorem sqb_div {a b q : Rat} (hb : b ≠ 0) (h : a * a = b * b * q) : sqb q := by
  refine sqb_of (t := a / b) ?_
  have e := Rat.div_mul_cancel (a := a) hb
  generalize a / b = c at *
  rw [← e] at h
  have z : b * (b * (c * c - q)) = 0 := by grind
  rcases Rat.mul_eq_zero.mp z with z | z
  · exact absurd z hb
  · rcases Rat.mul_eq_zero.mp z with z | z
    · exact absurd z hb
    · grind
/-- unlike roots, of which the product of the conjugates comes to 0 -/
theorem nrm4_zero {x y : Rt} (hx : Ok x) (hy : Ok y) (cx : Cn x) (cy : Cn y) (h : nrm4 (x.b - y.b) x.q y.q = 0) : x = y ∨ (x.b = y.b ∧ x.q = y.q ∧ x.s ≠ 0 ∧ x.s = -y.s) := by
  unfold nrm4 at h
  by_cases hd : x.b - y.b = 0
  · have eb : x.b = y.b := by grind
    rw [hd] at h
    have z : (x.q - y.q) * (x.q - y.q) = 0 := by grind
    have eq : x.q = y.q := by rcases Rat.mul_eq_zero.mp z with z | z <;> grind
    by_cases hs : x.s = 0
    · have q0 := hx.z hs
      have ys : y.s = 0 := by
        false_or_by_contra
        rename_i hh
        have := hy.p hh
        rw [← eq, q0] at this
        exact absurd this (by decide)
      left
      cases x; cases y
      simp only at eb eq hs ys
      rw [eb, eq, hs, ys]
    · have ys : y.s ≠ 0 := fun z => by
        have := hy.z z
        have := hx.p hs
        rw [eq, hy.z z] at this
        exact absurd this (by decide)
      by_cases e : x.s = y.s
      · left
        cases x; cases y
        simp only at eb eq e
        rw [eb, eq, e]
      · right
        refine ⟨eb, eq, hs, ?_⟩
        have := hx.s
        have := hy.s
        omega
  · have n2 : 2 * (x.b - y.b) ≠ 0 := fun z => hd (by grind)
    have s1 := sqb_div (a := (x.b - y.b) * (x.b - y.b) + x.q - y.q) (b := 2 * (x.b - y.b)) (q := x.q) n2 (by grind)
    rcases cx with ⟨c1, c2⟩ | ⟨_, _, c⟩
    · rw [c2] at h
      have z : ((x.b - y.b) * (x.b - y.b) - y.q) * ((x.b - y.b) * (x.b - y.b) - y.q) = 0 := by grind
      have e : (x.b - y.b) * (x.b - y.b) = y.q := by rcases Rat.mul_eq_zero.mp z with z | z <;> grind
      rcases cy with ⟨e1, e2⟩ | ⟨_, _, e1⟩
      · rw [e2] at e
        rcases Rat.mul_eq_zero.mp e with z | z <;> exact absurd z hd
      · exact absurd (sqb_of e) e1
    · exact absurd s1 c
theorem of_int_one {Z : Int} (h1 : -1 < Real.of (Z : Rat)) (h2 : Real.of (Z : Rat) < 1) : Z = 0 := by
  rw [← of_intm1, Real.of_lt, Rat.intCast_lt_intCast] at h1
  rw [← of_int1, Real.of_lt, Rat.intCast_lt_intCast] at h2
  omega
/-- .. else they are apart -/
theorem conj_apart {x y : Rt} (hx : Ok x) (hy : Ok y) (hN : nrm4 (x.b - y.b) x.q y.q ≠ 0) {T W : Real} (hT : 0 < T) (hd1 : -T < Real.of (x.b - y.b) + Real.of (x.s : Rat) * rtq x.q + Real.of (y.s : Rat) * rtq y.q) (hd2 : Real.of (x.b - y.b) + Real.of (x.s : Rat) * rtq x.q + Real.of (y.s : Rat) * rtq y.q < T)
    (hd3 : -T < Real.of (x.b - y.b) - Real.of (x.s : Rat) * rtq x.q - Real.of (y.s : Rat) * rtq y.q) (hd4 : Real.of (x.b - y.b) - Real.of (x.s : Rat) * rtq x.q - Real.of (y.s : Rat) * rtq y.q < T)
    (hd5 : -T < Real.of (x.b - y.b) - Real.of (x.s : Rat) * rtq x.q + Real.of (y.s : Rat) * rtq y.q) (hd6 : Real.of (x.b - y.b) - Real.of (x.s : Rat) * rtq x.q + Real.of (y.s : Rat) * rtq y.q < T)
    (hW : W = Real.of ((((x.b - y.b).den : Int) * (x.b - y.b).den * (x.q.den * y.q.den) * ((x.b - y.b).den * (x.b - y.b).den * (x.q.den * y.q.den)) : Int) : Rat)) :
    1 ≤ (val x - val y) * (T * (T * T) * W) ∨ (val x - val y) * (T * (T * T) * W) ≤ -1 := by
  have su : Real.of (x.s : Rat) * rtq x.q * (Real.of (x.s : Rat) * rtq x.q) = Real.of x.q := by rw [← s_sq hx]; grind
  have sv : Real.of (y.s : Rat) * rtq y.q * (Real.of (y.s : Rat) * rtq y.q) = Real.of y.q := by rw [← s_sq hy]; grind
  have e := nrm4_eq (d := x.b - y.b) su sv
  obtain ⟨Z, hZ⟩ := nrm4_int (x.b - y.b) x.q y.q
  have ev1 : val x - val y = Real.of (x.b - y.b) + Real.of (x.s : Rat) * rtq x.q - Real.of (y.s : Rat) * rtq y.q := by
    unfold val
    rw [Real.of_sub]
    grind
  rw [ev1]
  have hz := congrArg Real.of hZ
  rw [Real.of_mul, ← hW, ← e] at hz
  generalize Real.of (x.b - y.b) = d at *
  generalize Real.of (x.s : Rat) * rtq x.q = u at *
  generalize Real.of (y.s : Rat) * rtq y.q = v at *
  false_or_by_contra
  rename_i hh
  have h1 : (d + u - v) * (T * (T * T) * W) < 1 := by
    rcases Real.tri' ((d + u - v) * (T * (T * T) * W)) 1 with z | z | z
    · exact z
    · exact absurd (.inl (by grind)) hh
    · exact absurd (.inl (by grind)) hh
  have h2 : -1 < (d + u - v) * (T * (T * T) * W) := by
    rcases Real.tri' ((d + u - v) * (T * (T * T) * W)) (-1) with z | z | z
    · exact absurd (.inr (by grind)) hh
    · exact absurd (.inr (by grind)) hh
    · exact z
  obtain ⟨a1, a2⟩ := mul_lt' hd3 hd4 hd5 hd6
  obtain ⟨b1, b2⟩ := mul_lt' hd1 hd2 a1 a2
  have T3 := Real.mul_pos hT (Real.mul_pos hT hT)
  obtain ⟨c1, c2⟩ := mul_lt' (B := 1) h2 h1 b1 b2
  have key : (d + u - v) * (T * (T * T) * W) * ((d + u + v) * ((d - u - v) * (d - u + v))) = Real.of (Z : Rat) * (T * (T * T)) := by
    rw [← hz]
    grind
  rw [key] at c1 c2
  generalize T * (T * T) = t at *
  have zz : Z = 0 := by
    refine of_int_one ?_ ?_
    · rcases Real.tri' (-1) (Real.of (Z : Rat)) with z | z | z
      · exact z
      · rw [← z] at c1; grind
      · have := Real.mul_pos (show 0 < -1 - Real.of (Z : Rat) by grind) T3
        grind
    · rcases Real.tri' (Real.of (Z : Rat)) 1 with z | z | z
      · exact z
      · rw [z] at c2; grind
      · have := Real.mul_pos (show 0 < Real.of (Z : Rat) - 1 by grind) T3
        grind
  rw [zz] at hZ
  have hw : (((((x.b - y.b).den : Int) * (x.b - y.b).den * (x.q.den * y.q.den) * ((x.b - y.b).den * (x.b - y.b).den * (x.q.den * y.q.den)) : Int)) : Rat) ≠ 0 := castne (by
    have p1 : (0 : Int) < (x.b - y.b).den := by have := (x.b - y.b).den_pos; omega
    have p2 : (0 : Int) < x.q.den := by have := x.q.den_pos; omega
    have p3 : (0 : Int) < y.q.den := by have := y.q.den_pos; omega
    have := Int.mul_pos (Int.mul_pos p1 p1) (Int.mul_pos p2 p3)
    have := Int.mul_pos this this
    omega)
  rcases Rat.mul_eq_zero.mp hZ with z | z
  · exact hN z
  · exact hw z
end Rl

namespace Rl
open Lb
theorem ofI_le {i j : Int} : Real.of (i : Rat) ≤ Real.of (j : Rat) ↔ i ≤ j := by rw [Real.of_le, Rat.intCast_le_intCast]
theorem ofI_lt {i j : Int} : Real.of (i : Rat) < Real.of (j : Rat) ↔ i < j := by rw [Real.of_lt, Rat.intCast_lt_intCast]
theorem ofI_add (i j : Int) : Real.of ((i + j : Int) : Rat) = Real.of (i : Rat) + Real.of (j : Rat) := by rw [Rat.intCast_add, Real.of_add]
theorem ofI_neg (i : Int) : Real.of ((-i : Int) : Rat) = - Real.of (i : Rat) := by rw [Rat.intCast_neg, Real.of_neg]
/-- a fraction's size -/
theorem sr_lt {n : Nat} {b : Rat} (h : sr n b) : -Real.of ((2 ^ n : Int) : Rat) < Real.of b ∧ Real.of b < Real.of ((2 ^ n : Int) : Rat) := by
  have e := num_den b
  have d1 : (1 : Rat) ≤ ((b.den : Int) : Rat) := by
    have : ((1 : Int) : Rat) ≤ ((b.den : Int) : Rat) := Rat.intCast_le_intCast.mpr (by have := b.den_pos; omega)
    exact this
  have hn := h.n
  have hp : ((2 : Int) ^ n) = ((2 ^ n : Nat) : Int) := by push_cast; rfl
  have n1 : b.num < 2 ^ n := by
    unfold sm at hn
    rw [hp]; omega
  have n2 : -(2 ^ n : Int) < b.num := by
    unfold sm at hn
    rw [hp]; omega
  have r1 : ((b.num : Int) : Rat) < ((2 ^ n : Int) : Rat) := Rat.intCast_lt_intCast.mpr n1
  have r2 : ((-(2 ^ n : Int) : Int) : Rat) < ((b.num : Int) : Rat) := Rat.intCast_lt_intCast.mpr n2
  rw [Rat.intCast_neg] at r2
  have pp : (0 : Rat) < ((2 ^ n : Int) : Rat) := by grind
  generalize ((2 ^ n : Int) : Rat) = P at *
  generalize ((b.num : Int) : Rat) = N at *
  generalize ((b.den : Int) : Rat) = D at *
  rw [← Real.of_neg, Real.of_lt, Real.of_lt]
  constructor
  · rcases rat_lt_or_le (-P) b with z | z
    · exact z
    · have := Rat.mul_nonneg (show 0 ≤ -P - b by grind) (show 0 ≤ D by grind)
      have := Rat.mul_nonneg (Rat.le_of_lt pp) (show 0 ≤ D - 1 by grind)
      grind
  · rcases rat_lt_or_le b P with z | z
    · exact z
    · have := Rat.mul_nonneg (show 0 ≤ b - P by grind) (show 0 ≤ D by grind)
      have := Rat.mul_nonneg (Rat.le_of_lt pp) (show 0 ≤ D - 1 by grind)
      grind
theorem lt_of_sq {x t : Real} (ht : 0 ≤ t) (hx : 0 ≤ x) (h : x * x < t * t) : x < t := by
  rcases Real.tri' x t with z | z | z
  · exact z
  · rw [z] at h; grind
  · have := mul_nn' (show 0 ≤ x - t by grind) (show 0 ≤ x + t by grind)
    grind
theorem ofI_sq (n : Nat) : Real.of ((2 ^ (n + n) : Int) : Rat) = Real.of ((2 ^ n : Int) : Rat) * Real.of ((2 ^ n : Int) : Rat) := by
  rw [Int.pow_add, of_int_mul]
theorem pow_pos' (n : Nat) : 0 < Real.of ((2 ^ n : Int) : Rat) := int_pos.mpr (Int.pow_pos (by decide))
/-- a square root's size -/
theorem rt_lt {m : Nat} {q : Rat} (h0 : 0 ≤ q) (h : sr (m + m) q) : rtq q < Real.of ((2 ^ m : Int) : Rat) := by
  refine lt_of_sq (by have := pow_pos' m; grind) (rtq_nn q) ?_
  rw [rtq_sq h0, ← ofI_sq]
  exact (sr_lt h).2
/-- .. from below -/
theorem rt_ge {m : Nat} {q : Rat} (h0 : 0 < q) (h : sr (m + m) q) : 1 ≤ rtq q * Real.of ((2 ^ m : Int) : Rat) := by
  have e := rtq_sq (Rat.le_of_lt h0)
  have p := pow_pos' m
  have s := ofI_sq m
  have k : 1 ≤ Real.of q * Real.of ((2 ^ (m + m) : Int) : Rat) := by
    have en := num_den q
    have hd := h.d
    have n1 : 0 < q.num := by
      have a : 0 ≤ q.num := Rat.num_nonneg.mpr (Rat.le_of_lt h0)
      have b : q.num ≠ 0 := fun z => by have := Rat.num_eq_zero.mp z; rw [this] at h0; exact absurd h0 (by decide)
      omega
    have hp : ((2 : Int) ^ (m + m)) = ((2 ^ (m + m) : Nat) : Int) := by push_cast; rfl
    have r1 : ((1 : Int) : Rat) ≤ ((q.num : Int) : Rat) := Rat.intCast_le_intCast.mpr (by omega)
    have r2 : ((q.den : Int) : Rat) ≤ ((2 ^ (m + m) : Int) : Rat) := Rat.intCast_le_intCast.mpr (by
      unfold sm at hd
      rw [hp]; omega)
    rw [← Real.of_mul, ← Real.of_one, Real.of_le]
    have one : ((1 : Int) : Rat) = 1 := rfl
    rw [one] at r1
    have := Rat.mul_nonneg (Rat.le_of_lt h0) (show 0 ≤ ((2 ^ (m + m) : Int) : Rat) - ((q.den : Int) : Rat) by grind)
    grind
  rw [s, ← e] at k
  generalize Real.of ((2 ^ m : Int) : Rat) = t at *
  have r0 := rtq_nn q
  rcases Real.tri' (rtq q * t) 1 with z | z | z
  · have a := mul_nn' r0 (show 0 ≤ t by grind)
    have := Real.mul_pos (show 0 < 1 - rtq q * t by grind) (show 0 < 1 + rtq q * t by grind)
    grind
  · grind
  · grind
theorem s_le {x : Rt} (hx : Ok x) : -(rtq x.q) ≤ Real.of (x.s : Rat) * rtq x.q ∧ Real.of (x.s : Rat) * rtq x.q ≤ rtq x.q := by
  have := rtq_nn x.q
  rcases hx.s with e | e | e
  · rw [e, of_intm1]; exact ⟨by grind, by grind⟩
  · rw [e, of_int0]; exact ⟨by grind, by grind⟩
  · rw [e, of_int1]; exact ⟨by grind, by grind⟩
theorem up_to {z K L : Real} (hK : 0 < K) (hL : K ≤ L) (h : 1 ≤ z * K ∨ z * K ≤ -1) : 1 ≤ z * L ∨ z * L ≤ -1 := by
  rcases h with h | h
  · left
    have z0 : 0 < z := by
      rcases Real.tri' z 0 with y | y | y
      · have := Real.mul_pos (show 0 < -z by grind) hK; grind
      · rw [y] at h; grind
      · exact y
    have := mul_nn' (show 0 ≤ z by grind) (show 0 ≤ L - K by grind)
    grind
  · right
    have z0 : z < 0 := by
      rcases Real.tri' z 0 with y | y | y
      · exact y
      · rw [y] at h; grind
      · have := Real.mul_pos y hK; grind
    have := mul_nn' (show 0 ≤ -z by grind) (show 0 ≤ L - K by grind)
    grind
theorem apart {x y : Rt} (hx : Ok x) (hy : Ok y) (cx : Cn x) (cy : Cn y) (xb : sr 120 x.b) (yb : sr 120 y.b) (xq : sr 42 x.q) (yq : sr 42 y.q) (hne : x ≠ y) :
    1 ≤ (val x - val y) * Real.of ((2 ^ 1600 : Int) : Rat) ∨ (val x - val y) * Real.of ((2 ^ 1600 : Int) : Rat) ≤ -1 := by
  by_cases hN : nrm4 (x.b - y.b) x.q y.q = 0
  · rcases nrm4_zero hx hy cx cy hN with e | ⟨e1, e2, e3, e4⟩
    · exact absurd e hne
    · have r1 := rt_ge (m := 21) (hx.p e3) xq
      have rn := rtq_nn x.q
      have pp := pow_pos' 21
      refine up_to (K := Real.of ((2 ^ 21 : Int) : Rat)) pp (ofI_le.mpr (by decide +kernel)) ?_
      have ev1 : val x - val y = 2 * (Real.of (x.s : Rat) * rtq x.q) := by
        have : Real.of ((-y.s : Int) : Rat) = - Real.of (y.s : Rat) := ofI_neg _
        rw [← e4] at this
        unfold val
        rw [e1, e2] at *
        grind
      rw [ev1]
      generalize Real.of ((2 ^ 21 : Int) : Rat) = t at *
      rcases hx.s with e | e | e
      · rw [e, of_intm1]
        right; grind
      · exact absurd e e3
      · rw [e, of_int1]
        left; grind
  · have d2 : sr 241 (x.b - y.b) := by rw [Rat.sub_eq_add_neg]; exact (xb.add yb.neg).mono (by decide)
    obtain ⟨b1, b2⟩ := sr_lt xb
    obtain ⟨b3, b4⟩ := sr_lt yb
    have u := s_le hx
    have v := s_le hy
    have ru := rt_lt (m := 21) hx.q0 xq
    have rv := rt_lt (m := 21) hy.q0 yq
    have big : Real.of ((2 ^ 120 : Int) : Rat) + Real.of ((2 ^ 120 : Int) : Rat) + Real.of ((2 ^ 21 : Int) : Rat) + Real.of ((2 ^ 21 : Int) : Rat) ≤ Real.of ((2 ^ 123 : Int) : Rat) := by
      rw [← ofI_add, ← ofI_add, ← ofI_add, ofI_le]
      decide +kernel
    have K := conj_apart hx hy hN (T := Real.of ((2 ^ 123 : Int) : Rat)) (pow_pos' 123) (by rw [Real.of_sub]; grind) (by rw [Real.of_sub]; grind) (by rw [Real.of_sub]; grind) (by rw [Real.of_sub]; grind) (by rw [Real.of_sub]; grind) (by rw [Real.of_sub]; grind) rfl
    rw [← of_int_mul, ← of_int_mul, ← of_int_mul] at K
    have p1 : (0 : Int) < (x.b - y.b).den := by have := (x.b - y.b).den_pos; omega
    have p2 : (0 : Int) < x.q.den := by have := x.q.den_pos; omega
    have p3 : (0 : Int) < y.q.den := by have := y.q.den_pos; omega
    have pw := Int.mul_pos (Int.mul_pos p1 p1) (Int.mul_pos p2 p3)
    have pz := Int.mul_pos pw pw
    have dd := d2.d
    have sz := (((dd.mul dd).mul (xq.d.mul yq.d)).mul ((dd.mul dd).mul (xq.d.mul yq.d)))
    refine up_to (int_pos.mpr (Int.mul_pos (by decide) pz)) (ofI_le.mpr ?_) K
    have lt : ((x.b - y.b).den : Int) * (x.b - y.b).den * (x.q.den * y.q.den) * ((x.b - y.b).den * (x.b - y.b).den * (x.q.den * y.q.den)) ≤ 2 ^ 1132 := by
      have := sz.mono (show _ ≤ 1132 by decide)
      unfold sm at this
      have hp : ((2 : Int) ^ 1132) = ((2 ^ 1132 : Nat) : Int) := by push_cast; rfl
      rw [hp]
      omega
    have := Int.mul_le_mul_of_nonneg_left lt (show (0 : Int) ≤ 2 ^ 123 * (2 ^ 123 * 2 ^ 123) by decide +kernel)
    refine Int.le_trans this ?_
    decide +kernel
end Rl

namespace Rl
open Lb
theorem base_between (b : Rat) (w F : Int) (p : (0 : Int) < b.den) (f1 : F * (b.den : Int) ≤ b.num * w) (f2 : b.num * w < (F + 1) * (b.den : Int)) : Real.of (F : Rat) ≤ Real.of b * Real.of (w : Rat) ∧ Real.of b * Real.of (w : Rat) < Real.of (F : Rat) + 1 := by
  have e := num_den b
  have g1 : ((F * (b.den : Int) : Int) : Rat) ≤ ((b.num * w : Int) : Rat) := Rat.intCast_le_intCast.mpr f1
  have g2 : ((b.num * w : Int) : Rat) < (((F + 1) * (b.den : Int) : Int) : Rat) := Rat.intCast_lt_intCast.mpr f2
  have dp : (0 : Rat) < ((b.den : Int) : Rat) := Rat.intCast_pos.mpr p
  have one : ((1 : Int) : Rat) = 1 := rfl
  simp only [Rat.intCast_mul, Rat.intCast_add, ← e, one] at g1 g2
  rw [← Real.of_mul, ← Real.of_one, ← Real.of_add, Real.of_le, Real.of_lt]
  generalize ((b.den : Int) : Rat) = D at *
  generalize ((F : Int) : Rat) = f at *
  generalize ((w : Int) : Rat) = v at *
  constructor
  · rcases rat_lt_or_le (b * v) f with z | z
    · have := Rat.mul_pos (show 0 < f - b * v by grind) dp
      grind
    · exact z
  · rcases rat_lt_or_le (b * v) (f + 1) with z | z
    · exact z
    · have := Rat.mul_nonneg (show 0 ≤ b * v - (f + 1) by grind) (Rat.le_of_lt dp)
      grind
end Rl

namespace Rl
open Lb
/-! ### floors, scaled roots, a fraction and a root -/
theorem ge_of_sq {x t : Real} (ht : 0 ≤ t) (hx : 0 ≤ x) (h : x * x ≤ t * t) : x ≤ t := by
  rcases Real.tri' x t with z | z | z
  · grind
  · grind
  · have := Real.mul_pos (show 0 < x - t by grind) (show 0 < x + t by grind)
    grind
theorem val_fr (r : Rat) : val ⟨r, 0, 0⟩ = Real.of r := by
  unfold val
  simp only
  rw [of_int0]
  grind
theorem ok_fr0 (r : Rat) : Ok ⟨r, 0, 0⟩ := ⟨Rat.le_refl, .inr (.inl rfl), fun _ => rfl, fun z => absurd rfl z⟩
theorem cn_fr0 (r : Rat) : Cn ⟨r, 0, 0⟩ := .inl ⟨rfl, rfl⟩
end Rl

namespace Ld
open PySem PySem.Spec PyProof.Rows L2 Bl Lb
def t_from_frac : TSd := sRet (dTup (aCons (vr 0) (aCons (cn (.int 0)) (aCons (cn k_ZERO) (aNil)))))
def m_from_frac : TFd := fnD 1 1 t_from_frac
theorem e_from_frac {a0 : D} {S : Sto} {Q : DK} {E : EK} (k : t_from_frac [some a0] S ⟨fun _ S1 => Q .non S1, Q, fun _ _ => False, fun _ _ => False, fun x _ S1 => E x S1⟩) : m_from_frac [a0] S Q E := ⟨rfl, k⟩
def t_as_place : TSd := sRet (dB bTup (aCons (dLc (iVal (vr 0)) (.nm 2) (tYesD) (eIf (ttr (dIsi "tuple" (vr 2))) (vr 2) (dTup (aCons (vr 2) (aCons (cn (.int 1)) (aNil))))) [1, 2]) (aNil)))
def m_as_place : TFd := fnD 1 3 t_as_place
theorem e_as_place {a0 : D} {S : Sto} {Q : DK} {E : EK} (k : t_as_place [some a0, none, none] S ⟨fun _ S1 => Q .non S1, Q, fun _ _ => False, fun _ _ => False, fun x _ S1 => E x S1⟩) : m_as_place [a0] S Q E := ⟨rfl, k⟩
def t_scale_of : TSd := sSeq (sAsg (cn (.int 1)) (.nm 1)) (sSeq (sFor (iVal (vr 0)) (.tp (.nm 2 :: .nm 3 :: [])) (sFor (iVal (dTup (aCons (dTwo (vr 2) (cn (.int 1)) fIx) (aCons (dTwo (vr 3) (cn (.int 1)) fIx) (aNil))))) (.nm 4) (sAsg (dTwo (dTwo (vr 1) (dCall m_common 2 0 (fun ds _ => ds) (aCons (vr 1) (aCons (vr 4) (aNil))) aNil) fDiv) (vr 4) fMul) (.nm 1)))) (sRet (vr 1)))
def m_scale_of : TFd := fnD 1 5 t_scale_of
theorem e_scale_of {a0 : D} {S : Sto} {Q : DK} {E : EK} (k : t_scale_of [some a0, none, none, none, none] S ⟨fun _ S1 => Q .non S1, Q, fun _ _ => False, fun _ _ => False, fun x _ S1 => E x S1⟩) : m_scale_of [a0] S Q E := ⟨rfl, k⟩
def t_whole_place : TSd := sSeq (sAsg (dCall m_as_place 1 0 (fun ds _ => ds) (aCons (vr 0) (aNil)) aNil) (.tp (.nm 1 :: .nm 2 :: []))) (sSeq (sAsg (dCall m_scale_of 1 0 (fun ds _ => ds) (aCons (dLst (aCons (dTup (aCons (vr 1) (aCons (vr 2) (aNil)))) (aNil))) (aNil)) aNil) (.nm 3)) (sRet (dTup (aCons (dTwo (dTwo (vr 1) (cn (.int 0)) fIx) (dTwo (vr 3) (dTwo (vr 1) (cn (.int 1)) fIx) fDiv) fMul) (aCons (dTwo (dTwo (vr 2) (cn (.int 0)) fIx) (dTwo (vr 3) (dTwo (vr 2) (cn (.int 1)) fIx) fDiv) fMul) (aCons (vr 3) (aNil)))))))
def m_whole_place : TFd := fnD 1 4 t_whole_place
theorem e_whole_place {a0 : D} {S : Sto} {Q : DK} {E : EK} (k : t_whole_place [some a0, none, none, none] S ⟨fun _ S1 => Q .non S1, Q, fun _ _ => False, fun _ _ => False, fun x _ S1 => E x S1⟩) : m_whole_place [a0] S Q E := ⟨rfl, k⟩
def t_is_out : TSd := sSeq (sAsg (dSl (vr 0) (oSome (cn (.int 3))) (oNone)) (.tp (.nm 2 :: .nm 3 :: []))) (sSeq (sIf (tbl (dTwo (vr 2) (vr 3) fEq)) (sRet (cn (.bl true))) (sNx)) (sRet (eIf (tbl (dTwo (dCall m_cross_of 2 0 (fun ds _ => ds) (aCons (vr 2) (aCons (vr 1) (aNil))) aNil) (cn (.int 0)) fGe)) (dTwo (dCall m_cross_of 2 0 (fun ds _ => ds) (aCons (vr 1) (aCons (vr 3) (aNil))) aNil) (cn (.int 0)) fGe) (cn (.bl false)))))
def m_is_out : TFd := fnD 2 4 t_is_out
theorem e_is_out {a0 a1 : D} {S : Sto} {Q : DK} {E : EK} (k : t_is_out [some a0, some a1, none, none] S ⟨fun _ S1 => Q .non S1, Q, fun _ _ => False, fun _ _ => False, fun x _ S1 => E x S1⟩) : m_is_out [a0, a1] S Q E := ⟨rfl, k⟩
def t_steps_from : TSd := sRet (dTup (aCons (dTwo (dTwo (vr 1) (cn (.int 0)) fIx) (dTwo (dTwo (vr 0) (cn (.int 0)) fIx) (dTwo (vr 1) (cn (.int 2)) fIx) fMul) fSub) (aCons (dTwo (dTwo (vr 1) (cn (.int 1)) fIx) (dTwo (dTwo (vr 0) (cn (.int 1)) fIx) (dTwo (vr 1) (cn (.int 2)) fIx) fMul) fSub) (aNil))))
def m_steps_from : TFd := fnD 2 2 t_steps_from
theorem e_steps_from {a0 a1 : D} {S : Sto} {Q : DK} {E : EK} (k : t_steps_from [some a0, some a1] S ⟨fun _ S1 => Q .non S1, Q, fun _ _ => False, fun _ _ => False, fun x _ S1 => E x S1⟩) : m_steps_from [a0, a1] S Q E := ⟨rfl, k⟩
def t_side_height : TSd := sRet (dCall m_dot_of 2 0 (fun ds _ => ds) (aCons (dCall m_steps_from 2 0 (fun ds _ => ds) (aCons (dTwo (vr 0) (cn (.int 1)) fIx) (aCons (vr 1) (aNil))) aNil) (aCons (dCall m_outward 2 0 (fun ds _ => ds) (aCons (dTwo (vr 0) (cn (.int 1)) fIx) (aCons (dTwo (vr 0) (cn (.int 2)) fIx) (aNil))) aNil) (aNil))) aNil)
def m_side_height : TFd := fnD 2 2 t_side_height
theorem e_side_height {a0 a1 : D} {S : Sto} {Q : DK} {E : EK} (k : t_side_height [some a0, some a1] S ⟨fun _ S1 => Q .non S1, Q, fun _ _ => False, fun _ _ => False, fun x _ S1 => E x S1⟩) : m_side_height [a0, a1] S Q E := ⟨rfl, k⟩
def t_is_beside : TSd := sSeq (sAsg (dCall m_step_from 2 0 (fun ds _ => ds) (aCons (dTwo (vr 0) (cn (.int 2)) fIx) (aCons (dTwo (vr 0) (cn (.int 1)) fIx) (aNil))) aNil) (.nm 2)) (sRet (dChain (cn (.int 0)) (dCall m_dot_of 2 0 (fun ds _ => ds) (aCons (dCall m_steps_from 2 0 (fun ds _ => ds) (aCons (dTwo (vr 0) (cn (.int 1)) fIx) (aCons (vr 1) (aNil))) aNil) (aCons (vr 2) (aNil))) aNil) (dTwo (dCall m_dot_of 2 0 (fun ds _ => ds) (aCons (vr 2) (aCons (vr 2) (aNil))) aNil) (dTwo (vr 1) (cn (.int 2)) fIx) fMul) fLe fLe))
def m_is_beside : TFd := fnD 2 3 t_is_beside
theorem e_is_beside {a0 a1 : D} {S : Sto} {Q : DK} {E : EK} (k : t_is_beside [some a0, some a1, none] S ⟨fun _ S1 => Q .non S1, Q, fun _ _ => False, fun _ _ => False, fun x _ S1 => E x S1⟩) : m_is_beside [a0, a1] S Q E := ⟨rfl, k⟩
def t_is_spoked : TSd := sSeq (sIf (tbl (dTwo (dTwo (vr 0) (cn (.int 0)) fIx) (cn (.str "side")) fEq)) (sRet (eIf (tbl (dTwo (dCall m_side_height 2 0 (fun ds _ => ds) (aCons (vr 0) (aCons (vr 1) (aNil))) aNil) (cn (.int 0)) fGt)) (dCall m_is_beside 2 0 (fun ds _ => ds) (aCons (vr 0) (aCons (vr 1) (aNil))) aNil) (cn (.bl false)))) (sNx)) (sSeq (sAsg (vr 0) (.tp (.nm 2 :: .nm 3 :: .nm 4 :: .nm 5 :: .nm 6 :: []))) (sSeq (sAsg (dCall m_steps_from 2 0 (fun ds _ => ds) (aCons (vr 3) (aCons (vr 1) (aNil))) aNil) (.nm 7)) (sSeq (sIf (tbl (dTwo (dCall m_dot_of 2 0 (fun ds _ => ds) (aCons (vr 7) (aCons (vr 7) (aNil))) aNil) (dTwo (dTwo (vr 4) (dTwo (vr 1) (cn (.int 2)) fIx) fMul) (cn (.int 2)) fPow) fLe)) (sRet (cn (.bl false))) (sNx)) (sRet (dCall m_is_out 2 0 (fun ds _ => ds) (aCons (vr 0) (aCons (vr 7) (aNil))) aNil)))))
def m_is_spoked : TFd := fnD 2 8 t_is_spoked
theorem e_is_spoked {a0 a1 : D} {S : Sto} {Q : DK} {E : EK} (k : t_is_spoked [some a0, some a1, none, none, none, none, none, none] S ⟨fun _ S1 => Q .non S1, Q, fun _ _ => False, fun _ _ => False, fun x _ S1 => E x S1⟩) : m_is_spoked [a0, a1] S Q E := ⟨rfl, k⟩
def t_faces_at : TSd := sSeq (sAsg (dCall m_whole_place 1 0 (fun ds _ => ds) (aCons (vr 1) (aNil)) aNil) (.nm 2)) (sRet (dB bTup (aCons (dLc (iEnumD (dCall m_faces 1 0 (fun ds _ => ds) (aCons (vr 0) (aNil)) aNil)) (.tp (.nm 4 :: .nm 5 :: [])) (ttr (dCall m_is_spoked 2 0 (fun ds _ => ds) (aCons (vr 5) (aCons (vr 2) (aNil))) aNil)) (vr 4) [3, 4, 5]) (aNil))))
def m_faces_at : TFd := fnD 2 6 t_faces_at
theorem e_faces_at {a0 a1 : D} {S : Sto} {Q : DK} {E : EK} (k : t_faces_at [some a0, some a1, none, none, none, none] S ⟨fun _ S1 => Q .non S1, Q, fun _ _ => False, fun _ _ => False, fun x _ S1 => E x S1⟩) : m_faces_at [a0, a1] S Q E := ⟨rfl, k⟩
def t_face_distance : TSd := sSeq (sIf (tbl (dTwo (dTwo (vr 0) (cn (.int 0)) fIx) (cn (.str "side")) fEq)) (sRet (dCall m_from_frac 1 0 (fun ds _ => ds) (aCons (dCall m_frac 2 0 (fun ds _ => ds ++ []) (aCons (dCall m_side_height 2 0 (fun ds _ => ds) (aCons (vr 0) (aCons (vr 1) (aNil))) aNil) (aCons (dTwo (dCall m_length_of 1 0 (fun ds _ => ds) (aCons (dCall m_outward 2 0 (fun ds _ => ds) (aCons (dTwo (vr 0) (cn (.int 1)) fIx) (aCons (dTwo (vr 0) (cn (.int 2)) fIx) (aNil))) aNil) (aNil)) aNil) (dTwo (vr 1) (cn (.int 2)) fIx) fMul) (aNil))) aNil) (aNil)) aNil)) (sNx)) (sSeq (sAsg (dCall m_steps_from 2 0 (fun ds _ => ds) (aCons (dTwo (vr 0) (cn (.int 1)) fIx) (aCons (vr 1) (aNil))) aNil) (.nm 2)) (sRet (dCall m_root 1 2 (fun a b => g_root_sign_square a b) (aCons (dTup (aCons (dTwo (cn (.int 0)) (dTwo (vr 0) (cn (.int 2)) fIx) fSub) (aCons (cn (.int 1)) (aNil)))) (aNil)) (aCons (cn (.int 1)) (aCons (dCall m_frac 2 0 (fun ds _ => ds ++ []) (aCons (dCall m_dot_of 2 0 (fun ds _ => ds) (aCons (vr 2) (aCons (vr 2) (aNil))) aNil) (aCons (dTwo (dTwo (vr 1) (cn (.int 2)) fIx) (dTwo (vr 1) (cn (.int 2)) fIx) fMul) (aNil))) aNil) (aNil))))))
def m_face_distance : TFd := fnD 2 3 t_face_distance
theorem e_face_distance {a0 a1 : D} {S : Sto} {Q : DK} {E : EK} (k : t_face_distance [some a0, some a1, none] S ⟨fun _ S1 => Q .non S1, Q, fun _ _ => False, fun _ _ => False, fun x _ S1 => E x S1⟩) : m_face_distance [a0, a1] S Q E := ⟨rfl, k⟩
def t_distance : TSd := sSeq (sAsg (dCall m_faces_at 2 0 (fun ds _ => ds) (aCons (vr 0) (aCons (vr 1) (aNil))) aNil) (.nm 2)) (sSeq (sIf (tbl (dTwo (vr 2) (dTup (aNil)) fEq)) (sRet (dCall m_from_frac 1 0 (fun ds _ => ds) (aCons (cn k_ZERO) (aNil)) aNil)) (sNx)) (sRet (dCall m_face_distance 2 0 (fun ds _ => ds) (aCons (dTwo (dCall m_faces 1 0 (fun ds _ => ds) (aCons (vr 0) (aNil)) aNil) (dTwo (vr 2) (cn (.int 0)) fIx) fIx) (aCons (dCall m_whole_place 1 0 (fun ds _ => ds) (aCons (vr 1) (aNil)) aNil) (aNil))) aNil)))
def m_distance : TFd := fnD 2 3 t_distance
theorem e_distance {a0 a1 : D} {S : Sto} {Q : DK} {E : EK} (k : t_distance [some a0, some a1, none] S ⟨fun _ S1 => Q .non S1, Q, fun _ _ => False, fun _ _ => False, fun x _ S1 => E x S1⟩) : m_distance [a0, a1] S Q E := ⟨rfl, k⟩
def t_l_bag : TSd := sSeq (sAsg (cn (.int 0)) (.nm 2)) (sSeq (sIf (tbl (dTwo (vr 1) (dB bLen (aCons (vr 0) (aNil))) fLt)) (sAsg (dTwo (vr 0) (vr 1) fIx) (.nm 2)) (sNx)) (sSeq (sAsg (cn (.int 0)) (.nm 3)) (sSeq (sIf (tbl (dTwo (dB bAbs (aCons (vr 2) (aNil))) (dTwo (cn (.int 10)) (cn (.int 18)) fPow) fGe)) (sAsg (dB bAbs (aCons (vr 2) (aNil))) (.nm 3)) (sNx)) (sSeq (sAsg (dLst (aCons (cn (.int 2147483629)) (aCons (cn (.int 2147483587)) (aCons (cn (.int 2147483579)) (aCons (cn (.int 2147483563)) (aCons (cn (.int 2147483549)) (aCons (cn (.int 2147483543)) (aCons (cn (.int 2147483497)) (aCons (cn (.int 2147483489)) (aNil)))))))))) (.nm 4)) (sRet (dLstR (aCons (vr 3) (aCons (dTwo (dTwo (dTwo (dTwo (dTwo (vr 2) (cn (.int 2147483647)) fMod) (dTwo (cn (.int 104729)) (vr 1) fMul) fAdd) (cn (.int 7)) fAdd) (cn (.int 5)) fPow) (dTwo (vr 4) (dTwo (vr 1) (cn (.int 8)) fMod) fIx) fMod) (aNil)))))))))
def m_l_bag : TFd := fnD 2 5 t_l_bag
theorem e_l_bag {a0 a1 : D} {S : Sto} {Q : DK} {E : EK} (k : t_l_bag [some a0, some a1, none, none, none] S ⟨fun _ S1 => Q .non S1, Q, fun _ _ => False, fun _ _ => False, fun x _ S1 => E x S1⟩) : m_l_bag [a0, a1] S Q E := ⟨rfl, k⟩
def t_l_take : TSd := sSeq (sIf (tbl (dTwo (dTwo (vr 0) (cn (.int 0)) fIx) (cn (.int 0)) fGt)) (sSeq (sAsg (dTwo (dTwo (vr 0) (cn (.int 0)) fIx) (vr 1) fMod) (.nm 2)) (sSeq (sSub (dTwo (dTwo (vr 0) (cn (.int 0)) fIx) (vr 1) fDiv) (vr 0) (cn (.int 0))) (sRet (vr 2)))) (sNx)) (sSeq (sSub (dTwo (dTwo (dTwo (dTwo (vr 0) (cn (.int 1)) fIx) (cn (.int 48271)) fMul) (cn (.int 11)) fAdd) (cn (.int 2147483647)) fMod) (vr 0) (cn (.int 1))) (sRet (dTwo (dTwo (dTwo (dTwo (dTwo (vr 0) (cn (.int 1)) fIx) (cn (.int 8)) fDiv) (cn (.int 3)) fPow) (cn (.int 2147483629)) fMod) (vr 1) fMod)))
def m_l_take : TFd := fnD 2 3 t_l_take
def t_l_turned : TSd := sSeq (sAsg (vr 0) (.tp (.nm 2 :: .nm 3 :: []))) (sSeq (sFor (iR1 (aCons (dTwo (vr 1) (cn (.int 4)) fMod) (aNil))) (.nm 4) (sPar [2, 3] (aCons (dTwo (cn (.int 0)) (vr 3) fSub) (aCons (vr 2) (aNil))))) (sRet (dTup (aCons (vr 2) (aCons (vr 3) (aNil))))))
def m_l_turned : TFd := fnD 2 5 t_l_turned
theorem e_l_turned {a0 a1 : D} {S : Sto} {Q : DK} {E : EK} (k : t_l_turned [some a0, some a1, none, none, none] S ⟨fun _ S1 => Q .non S1, Q, fun _ _ => False, fun _ _ => False, fun x _ S1 => E x S1⟩) : m_l_turned [a0, a1] S Q E := ⟨rfl, k⟩
def t_l_thing : TSd := sSeq (sPar [3, 4] (aCons (dTwo (cn (.int 1)) (dCall m_l_take 2 0 (fun ds _ => ds) (aCons (vr 0) (aCons (cn (.int 3)) (aNil))) aNil) fAdd) (aCons (dCall m_l_take 2 0 (fun ds _ => ds) (aCons (vr 0) (aCons (cn (.int 4)) (aNil))) aNil) (aNil)))) (sSeq (sAsg (dTup (aCons (dTwo (dCall m_l_take 2 0 (fun ds _ => ds) (aCons (vr 0) (aCons (dTwo (dTwo (cn (.int 2)) (vr 1) fMul) (cn (.int 1)) fAdd) (aNil))) aNil) (vr 1) fSub) (aCons (dTwo (dCall m_l_take 2 0 (fun ds _ => ds) (aCons (vr 0) (aCons (dTwo (dTwo (cn (.int 2)) (vr 1) fMul) (cn (.int 1)) fAdd) (aNil))) aNil) (vr 1) fSub) (aNil)))) (.nm 5)) (sSeq (sAsg (dLst (aCons (dTup (aCons (cn (.int 1)) (aCons (cn (.int 0)) (aNil)))) (aCons (dTup (aCons (cn (.int 2)) (aCons (cn (.int 0)) (aNil)))) (aCons (dTup (aCons (cn (.int 3)) (aCons (cn (.int 4)) (aNil)))) (aCons (dTup (aCons (cn (.int 4)) (aCons (cn (.int 3)) (aNil)))) (aCons (dTup (aCons (cn (.int 5)) (aCons (cn (.int 12)) (aNil)))) (aCons (dTup (aCons (cn (.int 12)) (aCons (cn (.int 5)) (aNil)))) (aCons (dTup (aCons (cn (.int 8)) (aCons (cn (.int 15)) (aNil)))) (aCons (dTup (aCons (cn (.int 9)) (aCons (cn (.int 0)) (aNil)))) (aNil)))))))))) (.nm 6)) (sSeq (sAsg (dLst (aCons (dTup (aCons (dTup (aCons (cn (.int 1)) (aCons (cn (.int 0)) (aNil)))) (aCons (dTup (aCons (dNeg (cn (.int 1))) (aCons (cn (.int 0)) (aNil)))) (aNil)))) (aCons (dTup (aCons (dTup (aCons (cn (.int 3)) (aCons (cn (.int 4)) (aNil)))) (aCons (dTup (aCons (dNeg (cn (.int 3))) (aCons (cn (.int 4)) (aNil)))) (aNil)))) (aCons (dTup (aCons (dTup (aCons (cn (.int 4)) (aCons (cn (.int 3)) (aNil)))) (aCons (dTup (aCons (dNeg (cn (.int 4))) (aCons (cn (.int 3)) (aNil)))) (aNil)))) (aCons (dTup (aCons (dTup (aCons (cn (.int 5)) (aCons (cn (.int 12)) (aNil)))) (aCons (dTup (aCons (dNeg (cn (.int 5))) (aCons (cn (.int 12)) (aNil)))) (aNil)))) (aCons (dTup (aCons (dTup (aCons (cn (.int 12)) (aCons (cn (.int 5)) (aNil)))) (aCons (dTup (aCons (dNeg (cn (.int 12))) (aCons (cn (.int 5)) (aNil)))) (aNil)))) (aNil))))))) (.nm 7)) (sSeq (sAsg (dTwo (vr 7) (dLst (aCons (dTup (aCons (dTup (aCons (cn (.int 25)) (aCons (cn (.int 0)) (aNil)))) (aCons (dTup (aCons (cn (.int 7)) (aCons (cn (.int 24)) (aNil)))) (aNil)))) (aCons (dTup (aCons (dTup (aCons (cn (.int 25)) (aCons (cn (.int 0)) (aNil)))) (aCons (dTup (aCons (dNeg (cn (.int 7))) (aCons (cn (.int 24)) (aNil)))) (aNil)))) (aCons (dTup (aCons (dTup (aCons (cn (.int 3)) (aCons (cn (.int 4)) (aNil)))) (aCons (dTup (aCons (dNeg (cn (.int 3))) (aCons (dNeg (cn (.int 4))) (aNil)))) (aNil)))) (aCons (dTup (aCons (dTup (aCons (cn (.int 24)) (aCons (cn (.int 7)) (aNil)))) (aCons (dTup (aCons (dNeg (cn (.int 24))) (aCons (cn (.int 7)) (aNil)))) (aNil)))) (aNil)))))) fCat) (.nm 7)) (sSeq (sIf (tbl (dTwo (vr 2) (cn (.int 2)) fLt)) (sRet (dTup (aCons (cn (.str "spot")) (aCons (vr 5) (aNil))))) (sNx)) (sSeq (sAsg (dLst (aCons (dTwo (vr 6) (dCall m_l_take 2 0 (fun ds _ => ds) (aCons (vr 0) (aCons (cn (.int 8)) (aNil))) aNil) fIx) (aNil))) (.nm 8)) (sSeq (sIf (tbl (dTwo (vr 2) (cn (.int 4)) fGt)) (sAsg (dB bLst (aCons (dTwo (vr 7) (dCall m_l_take 2 0 (fun ds _ => ds) (aCons (vr 0) (aCons (cn (.int 9)) (aNil))) aNil) fIx) (aNil))) (.nm 8)) (sNx)) (sSeq (sAsg (dLstR (aNil)) (.nm 9)) (sSeq (sFor (iVal (vr 8)) (.nm 10) (sSeq (sAsg (dCall m_l_turned 2 0 (fun ds _ => ds) (aCons (dTup (aCons (dTwo (dTwo (vr 10) (cn (.int 0)) fIx) (vr 3) fMul) (aCons (dTwo (dTwo (vr 10) (cn (.int 1)) fIx) (vr 3) fMul) (aNil)))) (aCons (vr 4) (aNil))) aNil) (.tp (.nm 11 :: .nm 12 :: []))) (sDrop (dLm gApp (vr 9) (aCons (dTup (aCons (dTwo (dTwo (vr 5) (cn (.int 0)) fIx) (vr 11) fAdd) (aCons (dTwo (dTwo (vr 5) (cn (.int 1)) fIx) (vr 12) fAdd) (aNil)))) (aNil)))))) (sSeq (sIf (tbl (dTwo (vr 2) (cn (.int 5)) fLt)) (sRet (dTup (aCons (cn (.str "cord")) (aCons (vr 5) (aCons (dTwo (vr 9) (cn (.int 0)) fIx) (aNil)))))) (sNx)) (sRet (dTup (aCons (cn (.str "bow")) (aCons (vr 5) (aCons (dTwo (vr 9) (cn (.int 0)) fIx) (aCons (dTwo (vr 9) (cn (.int 1)) fIx) (aNil)))))))))))))))))
def m_l_thing : TFd := fnD 3 13 t_l_thing
theorem e_l_thing {a0 a1 a2 : D} {S : Sto} {Q : DK} {E : EK} (k : t_l_thing [some a0, some a1, some a2, none, none, none, none, none, none, none, none, none, none] S ⟨fun _ S1 => Q .non S1, Q, fun _ _ => False, fun _ _ => False, fun x _ S1 => E x S1⟩) : m_l_thing [a0, a1, a2] S Q E := ⟨rfl, k⟩
def t_l_low : TSd := sSeq (sPar [2, 3] (aCons (dB bAbs (aCons (vr 0) (aNil))) (aCons (vr 1) (aNil)))) (sSeq (sWhile (tbl (dTwo (vr 2) (cn (.int 0)) fGt)) (sPar [2, 3] (aCons (dTwo (vr 3) (vr 2) fMod) (aCons (vr 2) (aNil))))) (sRet (dTup (aCons (dTwo (vr 0) (vr 3) fDiv) (aCons (dTwo (vr 1) (vr 3) fDiv) (aNil))))))
def m_l_low : TFd := fnD 2 4 t_l_low
def t_l_part : TSd := sSeq (sAsg (dTwo (dLst (aCons (cn (.int 1)) (aCons (cn (.int 1)) (aCons (cn (.int 2)) (aCons (cn (.int 3)) (aCons (cn (.int 5)) (aCons (cn (.int 12)) (aNil)))))))) (dCall m_l_take 2 0 (fun ds _ => ds) (aCons (vr 0) (aCons (cn (.int 6)) (aNil))) aNil) fIx) (.nm 2)) (sRet (dCall m_l_low 2 0 (fun ds _ => ds) (aCons (dTwo (dCall m_l_take 2 0 (fun ds _ => ds) (aCons (vr 0) (aCons (dTwo (dTwo (dTwo (cn (.int 2)) (vr 1) fMul) (vr 2) fMul) (cn (.int 1)) fAdd) (aNil))) aNil) (dTwo (vr 1) (vr 2) fMul) fSub) (aCons (vr 2) (aNil))) aNil))
def m_l_part : TFd := fnD 2 3 t_l_part
theorem e_l_part {a0 a1 : D} {S : Sto} {Q : DK} {E : EK} (k : t_l_part [some a0, some a1, none] S ⟨fun _ S1 => Q .non S1, Q, fun _ _ => False, fun _ _ => False, fun x _ S1 => E x S1⟩) : m_l_part [a0, a1] S Q E := ⟨rfl, k⟩
def t_l_sum : TSd := sRet (dCall m_l_low 2 0 (fun ds _ => ds) (aCons (dTwo (dTwo (dTwo (vr 0) (cn (.int 0)) fIx) (dTwo (vr 1) (cn (.int 1)) fIx) fMul) (dTwo (dTwo (vr 1) (cn (.int 0)) fIx) (dTwo (vr 0) (cn (.int 1)) fIx) fMul) fAdd) (aCons (dTwo (dTwo (vr 0) (cn (.int 1)) fIx) (dTwo (vr 1) (cn (.int 1)) fIx) fMul) (aNil))) aNil)
def m_l_sum : TFd := fnD 2 2 t_l_sum
theorem e_l_sum {a0 a1 : D} {S : Sto} {Q : DK} {E : EK} (k : t_l_sum [some a0, some a1] S ⟨fun _ S1 => Q .non S1, Q, fun _ _ => False, fun _ _ => False, fun x _ S1 => E x S1⟩) : m_l_sum [a0, a1] S Q E := ⟨rfl, k⟩
def t_l_place : TSd := sSeq (sAsg (dCall m_l_take 2 0 (fun ds _ => ds) (aCons (vr 0) (aCons (cn (.int 4)) (aNil))) aNil) (.nm 3)) (sSeq (sAsg (dTup (aCons (dCall m_l_part 2 0 (fun ds _ => ds) (aCons (vr 0) (aCons (vr 1) (aNil))) aNil) (aCons (dCall m_l_part 2 0 (fun ds _ => ds) (aCons (vr 0) (aCons (vr 1) (aNil))) aNil) (aNil)))) (.nm 4)) (sSeq (sIf (tOrD (tbl (dTwo (vr 3) (cn (.int 1)) fGt)) (tbl (dTwo (vr 2) (dLst (aNil)) fEq))) (sRet (vr 4)) (sNx)) (sSeq (sAsg (dTwo (vr 2) (dCall m_l_take 2 0 (fun ds _ => ds) (aCons (vr 0) (aCons (dB bLen (aCons (vr 2) (aNil))) (aNil))) aNil) fIx) (.nm 5)) (sSeq (sAsg (dSl (vr 5) (oSome (cn (.int 1))) (oNone)) (.nm 6)) (sSeq (sPar [7, 8] (aCons (dTwo (vr 6) (dCall m_l_take 2 0 (fun ds _ => ds) (aCons (vr 0) (aCons (dB bLen (aCons (vr 6) (aNil))) (aNil))) aNil) fIx) (aCons (dTwo (vr 6) (dCall m_l_take 2 0 (fun ds _ => ds) (aCons (vr 0) (aCons (dB bLen (aCons (vr 6) (aNil))) (aNil))) aNil) fIx) (aNil)))) (sSeq (sAsg (dTwo (dLst (aCons (cn (.int 0)) (aCons (cn (.int 1)) (aCons (cn (.int 2)) (aCons (cn (.int 3)) (aCons (dNeg (cn (.int 1))) (aCons (cn (.int 5)) (aNil)))))))) (dCall m_l_take 2 0 (fun ds _ => ds) (aCons (vr 0) (aCons (cn (.int 6)) (aNil))) aNil) fIx) (.nm 9)) (sSeq (sAsg (dLstR (aNil)) (.nm 10)) (sSeq (sFor (iZipD (vr 7) (vr 8)) (.tp (.nm 11 :: .nm 12 :: [])) (sDrop (dLm gApp (vr 10) (aCons (dCall m_l_low 2 0 (fun ds _ => ds) (aCons (dTwo (dTwo (vr 11) (cn (.int 3)) fMul) (dTwo (dTwo (vr 12) (vr 11) fSub) (vr 9) fMul) fAdd) (aCons (cn (.int 3)) (aNil))) aNil) (aNil))))) (sSeq (sIf (tbl (dTwo (vr 3) (cn (.int 1)) fEq)) (sSeq (sAsg (dLst (aCons (dCall m_l_low 2 0 (fun ds _ => ds) (aCons (dTwo (dTwo (dTwo (vr 8) (cn (.int 0)) fIx) (dTwo (vr 7) (cn (.int 0)) fIx) fSub) (vr 9) fMul) (aCons (cn (.int 3)) (aNil))) aNil) (aCons (dCall m_l_low 2 0 (fun ds _ => ds) (aCons (dTwo (dTwo (dTwo (vr 8) (cn (.int 1)) fIx) (dTwo (vr 7) (cn (.int 1)) fIx) fSub) (vr 9) fMul) (aCons (cn (.int 3)) (aNil))) aNil) (aNil)))) (.nm 13)) (sAsg (dLstR (aCons (dCall m_l_sum 2 0 (fun ds _ => ds) (aCons (dTwo (vr 10) (cn (.int 0)) fIx) (aCons (dTup (aCons (dTwo (cn (.int 0)) (dTwo (dTwo (vr 13) (cn (.int 1)) fIx) (cn (.int 0)) fIx) fSub) (aCons (dTwo (dTwo (vr 13) (cn (.int 1)) fIx) (cn (.int 1)) fIx) (aNil)))) (aNil))) aNil) (aCons (dCall m_l_sum 2 0 (fun ds _ => ds) (aCons (dTwo (vr 10) (cn (.int 1)) fIx) (aCons (dTwo (vr 13) (cn (.int 0)) fIx) (aNil))) aNil) (aNil)))) (.nm 10))) (sNx)) (sRet (dTup (aCons (dTwo (vr 10) (cn (.int 0)) fIx) (aCons (dTwo (vr 10) (cn (.int 1)) fIx) (aNil))))))))))))))
def m_l_place : TFd := fnD 3 14 t_l_place
theorem e_l_place {a0 a1 a2 : D} {S : Sto} {Q : DK} {E : EK} (k : t_l_place [some a0, some a1, some a2, none, none, none, none, none, none, none, none, none, none, none] S ⟨fun _ S1 => Q .non S1, Q, fun _ _ => False, fun _ _ => False, fun x _ S1 => E x S1⟩) : m_l_place [a0, a1, a2] S Q E := ⟨rfl, k⟩
def t_l_rooted : TSd := sSeq (sIf (tbl (dTwo (vr 0) (cn (.int 0)) fEq)) (sRet (cn (.int 0))) (sNx)) (sSeq (sAsg (dTwo (cn (.int 1)) (dTwo (dTwo (dBits (vr 0)) (cn (.int 1)) fAdd) (cn (.int 2)) fDiv) fShl) (.nm 1)) (sSeq (sWhile (tbl (dTwo (dTwo (vr 1) (vr 1) fMul) (vr 0) fGt)) (sAsg (dTwo (dTwo (vr 1) (dTwo (vr 0) (vr 1) fDiv) fAdd) (cn (.int 2)) fDiv) (.nm 1))) (sRet (vr 1))))
def m_l_rooted : TFd := fnD 1 2 t_l_rooted
def t_l_root : TSd := sSeq (sPar [2, 3] (aCons (dCall m_l_rooted 1 0 (fun ds _ => ds) (aCons (dTwo (vr 1) (cn (.int 0)) fIx) (aNil)) aNil) (aCons (dCall m_l_rooted 1 0 (fun ds _ => ds) (aCons (dTwo (vr 1) (cn (.int 1)) fIx) (aNil)) aNil) (aNil)))) (sSeq (sIf (tAndD (tbl (dTwo (dTwo (vr 2) (vr 2) fMul) (dTwo (vr 1) (cn (.int 0)) fIx) fEq)) (tbl (dTwo (dTwo (vr 3) (vr 3) fMul) (dTwo (vr 1) (cn (.int 1)) fIx) fEq))) (sRet (dTup (aCons (dCall m_l_low 2 0 (fun ds _ => ds) (aCons (dTwo (dTwo (vr 0) (vr 3) fMul) (vr 2) fAdd) (aCons (vr 3) (aNil))) aNil) (aCons (cn (.int 0)) (aCons (dTup (aCons (cn (.int 0)) (aCons (cn (.int 1)) (aNil)))) (aNil)))))) (sNx)) (sRet (dTup (aCons (dTup (aCons (vr 0) (aCons (cn (.int 1)) (aNil)))) (aCons (cn (.int 1)) (aCons (vr 1) (aNil)))))))
def m_l_root : TFd := fnD 2 4 t_l_root
theorem e_l_root {a0 a1 : D} {S : Sto} {Q : DK} {E : EK} (k : t_l_root [some a0, some a1, none, none] S ⟨fun _ S1 => Q .non S1, Q, fun _ _ => False, fun _ _ => False, fun x _ S1 => E x S1⟩) : m_l_root [a0, a1] S Q E := ⟨rfl, k⟩
end Ld

namespace Ld
open PySem PySem.Spec PyProof.Rows L2 Bl Lb
local macro_rules | `(tactic| walk_at "bl0") => `(tactic| (with_reducible (first
  | (refine Go.gVr ?_; first | refine Go.vr0 ?_ | refine Go.vr1 ?_ | refine Go.vr2 ?_ | refine Go.vr3 ?_ | refine Go.vr4 ?_ | refine Go.vr5 ?_ | refine Go.vr6 ?_ | refine Go.vr7 ?_ | refine Go.vr8 ?_ | refine Go.vr9 ?_ | refine Go.vr10 ?_ | refine Go.vr11 ?_ | refine Go.vr12 ?_ | refine Go.vr13 ?_ | refine Go.vr14 ?_ | refine Go.vr15 ?_ | refine Go.vr16 ?_ | refine Go.vr17 ?_ | refine Go.vr18 ?_ | refine Go.vr19 ?_ | refine Go.vr20 ?_ | refine Go.vr21 ?_ | refine Go.vr22 ?_ | refine Go.vr23 ?_)
  | refine Go.seq ?_
  | refine Go.nx' ?_
  | refine Go.ret ?_
  | refine Go.if' ?_
  | refine Go.asg ?_
  | refine Go.par ?_
  | refine Go.drop ?_
  | refine Go.brk ?_
  | refine Go.cnt ?_
  | refine Go.raise ?_
  | refine Go.thru ?_
  | refine Go.tryAs ?_
  | refine Go.for' ?_
  | refine Go.sub ?_
  | refine Go.retN ?_
  | refine Go.par_cons ?_
  | refine Go.par_nil ?_
  | refine Go.cn' ?_
  | refine Go.two ?_
  | refine Go.nil ?_
  | refine Go.cons ?_
  | refine Go.tup ?_
  | refine Go.lst ?_
  | refine Go.lstR ?_
  | refine Go.tbl' ?_
  | refine Go.tblK' ?_
  | refine Go.ttr' ?_
  | refine Go.truB ?_
  | refine Go.truI ?_
  | refine Go.truN ?_
  | refine Go.and' ?_
  | refine Go.or' ?_
  | refine Go.not' ?_
  | refine Go.vOf' ?_
  | refine Go.vNot' ?_
  | refine Go.eIf' ?_
  | refine Go.ifT ?_
  | refine Go.ifF ?_
  | refine Go.ifN ?_
  | refine Go.add ?_
  | refine Go.sub' ?_
  | refine Go.lt ?_
  | refine Go.le ?_
  | refine Go.gt ?_
  | refine Go.ge ?_
  | refine Go.eqI ?_
  | refine Go.neI ?_
  | refine Go.is' ?_
  | refine Go.isNot' ?_
  | refine Go.chain ?_
  | refine Go.dB' ?_
  | refine Go.neg ?_
  | refine Go.neg' ?_
  | refine Go.abs' ?_
  | refine Go.lenT ?_
  | refine Go.lenL ?_
  | refine Go.max' ?_
  | refine Go.min' ?_
  | refine Go.intI ?_
  | refine Go.intB ?_
  | refine Go.tupL ?_
  | refine Go.tupT ?_
  | refine Go.isi ?_
  | refine Go.call ?_
  | refine Go.iVal' ?_
  | refine Go.iValT ?_
  | refine Go.iValL ?_
  | refine Go.r1 ?_
  | refine Go.r2 ?_
  | refine Go.star ?_
  | refine Go.l_cons ?_
  | refine Go.l_nil ?_
  | refine Go.enum' ?_
  | refine Go.rev' ?_
  | refine Go.zip' ?_
  | refine Go.wipe_nil ?_
  | refine Go.wipe_cons ?_
  | refine Go.iadd ?_
  | refine Go.sl ?_
  | refine Go.oN ?_
  | refine Go.oS ?_
  | refine Go.osK' ?_
  | refine Go.getL ?_
  | refine Go.lc ?_
  | refine Go.lcR ?_
  | refine Go.lg_nil ?_
  | refine Go.lg_cons ?_
  | refine Go.yes ?_
  | refine Go.for_nil ?_
  | refine Go.for_cons ?_
  | refine Go.revT ?_
  | refine Go.revL ?_
  | refine Go.zipT ?_
  | refine Go.zipL ?_
  | refine Go.tupK' rfl ?_
  | refine Go.lstK' rfl ?_
  | refine Go.callK' rfl rfl ?_
  | refine Go.lcL rfl ?_
  | refine Go.getLL' rfl ?_
  | refine Go.addT rfl ?_
  | (refine Go.gAsg ?_; first | refine Go.set0 ?_ | refine Go.set1 ?_ | refine Go.set2 ?_ | refine Go.set3 ?_ | refine Go.set4 ?_ | refine Go.set5 ?_ | refine Go.set6 ?_ | refine Go.set7 ?_ | refine Go.set8 ?_ | refine Go.set9 ?_ | refine Go.set10 ?_ | refine Go.set11 ?_ | refine Go.set12 ?_ | refine Go.set13 ?_ | refine Go.set14 ?_ | refine Go.set15 ?_ | refine Go.set16 ?_ | refine Go.set17 ?_ | refine Go.set18 ?_ | refine Go.set19 ?_ | refine Go.set20 ?_ | refine Go.set21 ?_ | refine Go.set22 ?_ | refine Go.set23 ?_ | refine Go.tp_cons ?_ | refine Go.tp_nil ?_)
  | (refine Go.gIxT ?_; first | refine Go.ixT0 ?_ | refine Go.ixT1 ?_ | refine Go.ixT2 ?_ | refine Go.ixT3 ?_ | refine Go.ixT4 ?_ | refine Go.ixT5 ?_ | refine Go.ixT6 ?_ | refine Go.ixT7 ?_)
  | (refine Go.gIxL ?_; first | refine Go.ixL0 ?_ | refine Go.ixL1 ?_ | refine Go.ixL2 ?_ | refine Go.ixL3 ?_ | refine Go.ixL4 ?_ | refine Go.ixL5 ?_ | refine Go.ixL6 ?_ | refine Go.ixL7 ?_)
  | (refine Go.gAug ?_; first | refine Go.aug0 ?_ | refine Go.aug1 ?_ | refine Go.aug2 ?_ | refine Go.aug3 ?_ | refine Go.aug4 ?_ | refine Go.aug5 ?_ | refine Go.aug6 ?_ | refine Go.aug7 ?_ | refine Go.aug8 ?_ | refine Go.aug9 ?_ | refine Go.aug10 ?_ | refine Go.aug11 ?_ | refine Go.aug12 ?_ | refine Go.aug13 ?_ | refine Go.aug14 ?_ | refine Go.aug15 ?_ | refine Go.aug16 ?_ | refine Go.aug17 ?_ | refine Go.aug18 ?_ | refine Go.aug19 ?_ | refine Go.aug20 ?_ | refine Go.aug21 ?_ | refine Go.aug22 ?_ | refine Go.aug23 ?_)
  | (refine Go.gStar ?_; first | refine Go.startup0 ?_ | refine Go.starlst0 ?_ | refine Go.startup1 ?_ | refine Go.starlst1 ?_ | refine Go.startup2 ?_ | refine Go.starlst2 ?_ | refine Go.startup3 ?_ | refine Go.starlst3 ?_ | refine Go.startup4 ?_ | refine Go.starlst4 ?_ | refine Go.startup_2 ?_ | refine Go.starlst_2 ?_ | refine Go.startup_3 ?_ | refine Go.starlst_3 ?_ | refine Go.startup_4 ?_ | refine Go.starlst_4 ?_)
  | refine Go.slfT1 ?_ | refine Go.sltT1 ?_ | refine Go.slfL1 ?_ | refine Go.sltL1 ?_ | refine Go.slfT2 ?_ | refine Go.sltT2 ?_ | refine Go.slfL2 ?_ | refine Go.sltL2 ?_ | refine Go.slfT3 ?_ | refine Go.sltT3 ?_ | refine Go.slfL3 ?_ | refine Go.sltL3 ?_ | refine Go.slfT4 ?_ | refine Go.sltT4 ?_ | refine Go.slfL4 ?_ | refine Go.sltL4 ?_
  | (refine Go.gUns ?_; first | refine Go.uns0 ?_ | refine Go.uns1 ?_ | refine Go.uns2 ?_ | refine Go.uns3 ?_ | refine Go.uns4 ?_ | refine Go.uns5 ?_ | refine Go.uns6 ?_ | refine Go.uns7 ?_ | refine Go.uns8 ?_ | refine Go.uns9 ?_ | refine Go.uns10 ?_ | refine Go.uns11 ?_ | refine Go.uns12 ?_ | refine Go.uns13 ?_ | refine Go.uns14 ?_ | refine Go.uns15 ?_ | refine Go.uns16 ?_ | refine Go.uns17 ?_ | refine Go.uns18 ?_ | refine Go.uns19 ?_ | refine Go.uns20 ?_ | refine Go.uns21 ?_ | refine Go.uns22 ?_ | refine Go.uns23 ?_)
  | refine Go.entup0 ?_ | refine Go.enlst0 ?_ | refine Go.entup1 ?_ | refine Go.enlst1 ?_ | refine Go.entup2 ?_ | refine Go.enlst2 ?_ | refine Go.entup3 ?_ | refine Go.enlst3 ?_ | refine Go.entup4 ?_ | refine Go.enlst4 ?_ | refine Go.entup5 ?_ | refine Go.enlst5 ?_ | refine Go.entup6 ?_ | refine Go.enlst6 ?_)))
local macro_rules | `(tactic| walk_at "bl1") => `(tactic| first | ((with_reducible refine Go.gEqS ?_); (first | refine Go.eqS (b := true) ⟨rfl, by decide +kernel⟩ ⟨rfl, by decide +kernel⟩ rfl ?_ | refine Go.eqS (b := false) ⟨rfl, by decide +kernel⟩ ⟨rfl, by decide +kernel⟩ rfl ?_)) | ((with_reducible refine Go.gNeS ?_); (first | refine Go.neS (b := true) ⟨rfl, by decide +kernel⟩ ⟨rfl, by decide +kernel⟩ rfl ?_ | refine Go.neS (b := false) ⟨rfl, by decide +kernel⟩ ⟨rfl, by decide +kernel⟩ rfl ?_)) | walk_at "bl0" | ((with_reducible refine Go.gAll ?_); (refine Go.allB (by rfl) ?_)) | ((with_reducible refine Go.gIxT ?_); (refine Go.ixT (by rfl) ?_)) | ((with_reducible refine Go.gIxL ?_); (refine Go.ixL (by rfl) ?_)))
local macro_rules | `(tactic| walk_at "bl") => `(tactic| (repeat walk_at "bl1"))
/-! ### places, and how far they are -/
abbrev R2 := Rat × Rat
abbrev plD (P : R2) : D := .tup [fr P.1, fr P.2]
def toR (p : P2) : R2 := ((p.1 : Rat), (p.2 : Rat))
def difR (P : R2) (p : P2) : R2 := (P.1 - p.1, P.2 - p.2)
def dotR (u : R2) (v : P2) : Rat := u.1 * v.1 + u.2 * v.2
def crsR (u : R2) (v : P2) : Rat := u.1 * v.2 - u.2 * v.1
def nrm (u : R2) : Rat := u.1 * u.1 + u.2 * u.2
structure PR (n : Nat) (P : R2) : Prop where
  x : sr n P.1
  y : sr n P.2
/-- a place in whole numbers -/
structure Wp (n : Nat) (P : R2) (X Y B : Int) : Prop where
  b0 : 0 < B
  ex : (X : Rat) = P.1 * B
  ey : (Y : Rat) = P.2 * B
  sx : sm n X
  sy : sm n Y
  sb : sm n B
abbrev wpD (X Y B : Int) : D := .tup [.int X, .int Y, .int B]
/-- a place or a point -/
inductive Pl : D → R2 → Prop
  | place (P : R2) : Pl (plD P) P
  | point (p : P2) : Pl (pt p) (toR p)
theorem as_place_spec {d : D} {P : R2} {S : Sto} {Q : DK} {E : EK} (h : Pl d P) (k : Q (plD P) S) : m_as_place [d] S Q E := by
  refine e_as_place ?_
  unfold t_as_place
  cases h with
  | place P =>
    walk_at "bl"
    refine Go.isiK' (isi_tup _) ?_
    walk_at "bl"
    refine Go.isiK' (isi_tup _) ?_
    walk_at "bl"
    exact k
  | point p =>
    have e : ∀ i : Int, isiD "tuple" (.int i) = some false := fun i => by
      show L2.kitB "int" "tuple" = some false
      decide +kernel
    walk_at "bl"
    refine Go.isiK' (e _) ?_
    walk_at "bl"
    refine Go.isiK' (e _) ?_
    walk_at "bl"
    exact k
theorem lcm_fold {a b : Int} (ha : 0 < a) (hb : 0 < b) : ∃ m n : Int, a.fdiv (Int.gcd a b) * b = m * a ∧ a.fdiv (Int.gcd a b) * b = n * b ∧ 0 < m ∧ 0 < n := by
  have g : (0 : Int) < Int.gcd a b := by have := Int.gcd_pos_of_ne_zero_left b (show a ≠ 0 by omega); omega
  have h1 : (Int.gcd a b : Int) ∣ a := Int.gcd_dvd_left ..
  have h2 : (Int.gcd a b : Int) ∣ b := Int.gcd_dvd_right ..
  obtain ⟨x, hx⟩ := h1
  obtain ⟨y, hy⟩ := h2
  have e : a.fdiv (Int.gcd a b) = x := by
    conv => lhs; arg 1; rw [hx]
    rw [Int.mul_comm, fdiv_mul (by omega)]
  rw [e]
  have x0 : 0 < x := by
    rcases Int.lt_or_le 0 x with z | z
    · exact z
    · have := Int.mul_nonneg (show 0 ≤ (Int.gcd a b : Int) by omega) (show 0 ≤ -x by omega)
      have e2 : (Int.gcd a b : Int) * -x = -a := by rw [Int.mul_neg, ← hx]
      omega
  have y0 : 0 < y := by
    rcases Int.lt_or_le 0 y with z | z
    · exact z
    · have := Int.mul_nonneg (show 0 ≤ (Int.gcd a b : Int) by omega) (show 0 ≤ -y by omega)
      have e2 : (Int.gcd a b : Int) * -y = -b := by rw [Int.mul_neg, ← hy]
      omega
  refine ⟨y, x, ?_, rfl, y0, x0⟩
  generalize (Int.gcd a b : Int) = G at *
  rw [hy]
  conv => rhs; rw [hx]
  grind
theorem scale_one {P : R2} {n : Nat} {S : Sto} {Q : DK} {E : EK} (hP : PR n P) (hn : n ≤ 950) (k : ∀ B : Int, 0 < B → (P.1.den : Int) ∣ B → (P.2.den : Int) ∣ B → sm (2 * n + 1) B → Q (.int B) S) : m_scale_of [.lst [plD P]] S Q E := by
  refine e_scale_of ?_
  unfold t_scale_of
  have d1 := den_pos P.1
  have d2 := den_pos P.2
  walk_at "bl"
  refine common_spec (n := n + 1) (sm.of (by have : 2 ^ 1 ≤ 2 ^ (n + 1) := Nat.pow_le_pow_right (by decide) (by omega); show 1 < _; omega)) (hP.x.d.mono (by omega)) ?_
  obtain ⟨m, w, e1, e2, m0, w0⟩ := lcm_fold (a := 1) (b := P.1.den) (by decide) d1
  have g1 : (Int.gcd 1 (P.1.den : Int) : Int) = 1 := by rw [Int.gcd_comm, Int.gcd_one]; rfl
  rw [g1] at e1 e2 ⊢
  walk_at "bl"
  refine Go.div ⟨by decide, by decide⟩ ?_
  walk_at "bl"
  rw [show Int.fdiv 1 1 = 1 from rfl]
  refine Go.mul ((sm.of (n := 1) (by decide)).cmul hP.x.d (by omega)) ?_
  walk_at "bl"
  rw [Int.one_mul]
  refine common_spec (n := n) hP.x.d hP.y.d ?_
  obtain ⟨m, w, e1, e2, m0, w0⟩ := lcm_fold (a := P.1.den) (b := P.2.den) d1 d2
  have g0 : (0 : Int) < Int.gcd (P.1.den : Int) (P.2.den : Int) := by have := Int.gcd_pos_of_ne_zero_left (P.2.den : Int) (show (P.1.den : Int) ≠ 0 by omega); omega
  have gs : sm n (Int.gcd (P.1.den : Int) (P.2.den : Int)) := by
    have := Int.gcd_le_natAbs_left (a := (P.1.den : Int)) (b := (P.2.den : Int)) (by omega)
    have := hP.x.d
    unfold sm at *
    omega
  walk_at "bl"
  refine Go.div (gs.cdiv (by omega) (by omega)) ?_
  have qs : sm n ((P.1.den : Int).fdiv (Int.gcd (P.1.den : Int) (P.2.den : Int))) := by
    have h := hP.x.d
    have := Int.ediv_le_self (a := (P.1.den : Int)) (Int.gcd (P.1.den : Int) (P.2.den : Int) : Int) (by omega)
    rw [Int.fdiv_eq_ediv_of_nonneg _ (by omega)]
    have := Int.ediv_nonneg (a := (P.1.den : Int)) (b := (Int.gcd (P.1.den : Int) (P.2.den : Int) : Int)) (by omega) (by omega)
    unfold sm at *
    omega
  walk_at "bl"
  refine Go.mul (qs.cmul hP.y.d (by omega)) ?_
  walk_at "bl"
  refine k _ ?_ ⟨m, ?_⟩ ⟨w, ?_⟩ ((qs.mul hP.y.d).mono (by omega))
  · rw [e2]
    exact Int.mul_pos w0 d2
  · rw [e1, Int.mul_comm]
  · rw [e2, Int.mul_comm]
theorem whole_place_spec {d : D} {P : R2} {n : Nat} {S : Sto} {Q : DK} {E : EK} (h : Pl d P) (hP : PR n P) (hn : n ≤ 950) (k : ∀ X Y B, Wp (3 * n + 2) P X Y B → Q (wpD X Y B) S) : m_whole_place [d] S Q E := by
  refine e_whole_place ?_
  unfold t_whole_place
  walk_at "bl"
  refine as_place_spec h ?_
  walk_at "bl"
  refine scale_one hP hn fun B b0 hx hy sb => ?_
  obtain ⟨u, hu⟩ := hx
  obtain ⟨v, hv⟩ := hy
  have d1 := den_pos P.1
  have d2 := den_pos P.2
  have f1 : B.fdiv P.1.den = u := by rw [hu, Int.mul_comm, fdiv_mul (by omega)]
  have f2 : B.fdiv P.2.den = v := by rw [hv, Int.mul_comm, fdiv_mul (by omega)]
  have su : ∀ {q w : Int}, 0 < q → B = q * w → sm (2 * n + 1) w := fun {q w} hq e => by
    unfold sm at *
    rw [e, Int.natAbs_mul] at sb
    have : w.natAbs ≤ q.natAbs * w.natAbs := Nat.le_mul_of_pos_left _ (by omega)
    omega
  have su1 := su d1 hu
  have su2 := su d2 hv
  walk_at "bl"
  refine Go.div (hP.x.d.cdiv (by omega) (by omega)) ?_
  walk_at "bl"
  rw [f1]
  refine Go.mul (hP.x.n.cmul su1 (by omega)) ?_
  walk_at "bl"
  refine Go.div (hP.y.d.cdiv (by omega) (by omega)) ?_
  walk_at "bl"
  rw [f2]
  refine Go.mul (hP.y.n.cmul su2 (by omega)) ?_
  walk_at "bl"
  refine k _ _ _ ⟨b0, ?_, ?_, (hP.x.n.mul su1).mono (by omega), (hP.y.n.mul su2).mono (by omega), sb.mono (by omega)⟩
  · have e := num_den P.1
    rw [hu]
    simp only [Rat.intCast_mul]
    grind
  · have e := num_den P.2
    rw [hv]
    simp only [Rat.intCast_mul]
    grind
/-! steps in whole numbers: the number times the steps -/
structure Stp (n : Nat) (P : R2) (p : P2) (u : P2) (B : Int) : Prop where
  b0 : 0 < B
  ex : (u.1 : Rat) = B * (difR P p).1
  ey : (u.2 : Rat) = B * (difR P p).2
  s1 : sm n u.1
  s2 : sm n u.2
theorem steps_from_spec {P : R2} {p : P2} {n : Nat} {X Y B : Int} {S : Sto} {Q : DK} {E : EK} (w : Wp n P X Y B) (hp : Bd p) (hn : n ≤ 3000) (k : ∀ u, Stp (n + 11) P p u B → Q (pt u) S) : m_steps_from [pt p, wpD X Y B] S Q E := by
  refine e_steps_from ?_
  unfold t_steps_from
  have p1 : sm 10 p.1 := sm_of_le hp.1 (by decide)
  have p2 : sm 10 p.2 := sm_of_le hp.2 (by decide)
  walk_at "bl"
  refine Go.mul (p1.cmul w.sb (by omega)) ?_
  walk_at "bl"
  refine Go.mul (p2.cmul w.sb (by omega)) ?_
  walk_at "bl"
  refine k (X - p.1 * B, Y - p.2 * B) ⟨w.b0, ?_, ?_, ?_, ?_⟩
  · have := w.ex
    unfold difR
    simp only [Rat.intCast_sub, Rat.intCast_mul]
    grind
  · have := w.ey
    unfold difR
    simp only [Rat.intCast_sub, Rat.intCast_mul]
    grind
  · exact ((w.sx.mono (by omega : n ≤ n + 10)).sub ((p1.mul w.sb).mono (by omega))).mono (by omega)
  · exact ((w.sy.mono (by omega : n ≤ n + 10)).sub ((p2.mul w.sb).mono (by omega))).mono (by omega)
/-! signs -/
section
variable {i B : Int} {r : Rat}
theorem sc_pos (hB : 0 < B) (e : (i : Rat) = B * r) : 0 < i ↔ 0 < r := by
  rw [← Rat.intCast_pos, e]
  exact Rat.mul_pos_iff_of_pos_left (Rat.intCast_pos.mpr hB)
theorem sc_neg (hB : 0 < B) (e : (i : Rat) = B * r) : i < 0 ↔ r < 0 := by
  rw [← Rat.intCast_neg_iff, e]
  exact Rat.mul_neg_iff_of_pos_left (Rat.intCast_pos.mpr hB)
theorem sc_nonneg (hB : 0 < B) (e : (i : Rat) = B * r) : 0 ≤ i ↔ 0 ≤ r := by
  rw [← Int.not_lt, ← Rat.not_lt, sc_neg hB e]
theorem sc_nonpos (hB : 0 < B) (e : (i : Rat) = B * r) : i ≤ 0 ↔ r ≤ 0 := by
  rw [← Int.not_lt, ← Rat.not_lt, sc_pos hB e]
end
theorem Stp.dot {n : Nat} {P : R2} {p u v : P2} {B : Int} (h : Stp n P p u B) : (dot u v : Rat) = B * dotR (difR P p) v := by
  have e1 := h.ex
  have e2 := h.ey
  unfold Lb.dot dotR
  simp only [Rat.intCast_mul, Rat.intCast_add]
  grind
theorem Stp.crs {n : Nat} {P : R2} {p u v : P2} {B : Int} (h : Stp n P p u B) : (crs u v : Rat) = B * crsR (difR P p) v := by
  have e1 := h.ex
  have e2 := h.ey
  unfold Lb.crs crsR
  simp only [Rat.intCast_mul, Rat.intCast_sub]
  grind
theorem crs_flip (a b : P2) : crs a b = - crs b a := by
  unfold Lb.crs
  grind
theorem Stp.nrm {n : Nat} {P : R2} {p u : P2} {B : Int} (h : Stp n P p u B) : (Lb.dot u u : Rat) = (B * B : Int) * nrm (difR P p) := by
  have e1 := h.ex
  have e2 := h.ey
  unfold Lb.dot Ld.nrm
  simp only [Rat.intCast_mul, Rat.intCast_add]
  grind
/-! whether a place lies on a spoke of a face -/
def heightR (P : R2) (a b : P2) : Rat := dotR (difR P a) (outw a b)
def besideR (P : R2) (a b : P2) : Prop := 0 ≤ dotR (difR P a) (dif b a) ∧ dotR (difR P a) (dif b a) ≤ dot (dif b a) (dif b a)
instance (P : R2) (a b : P2) : Decidable (besideR P a b) := by unfold besideR; infer_instance
def outR (u : R2) (f l : P2) : Prop := f = l ∨ (crsR u f ≤ 0 ∧ 0 ≤ crsR u l)
instance (u : R2) (f l : P2) : Decidable (outR u f l) := by unfold outR; infer_instance
def spokedR (P : R2) : Fc → Prop
  | .side a b => 0 < heightR P a b ∧ besideR P a b
  | .round c r f l => ¬ nrm (difR P c) ≤ ((r * r : Int) : Rat) ∧ outR (difR P c) f l
instance (P : R2) (f : Fc) : Decidable (spokedR P f) := by cases f <;> (unfold spokedR; infer_instance)
theorem side_height_spec {P : R2} {a b : P2} {n : Nat} {X Y B : Int} {S : Sto} {Q : DK} {E : EK} (w : Wp n P X Y B) (hf : FcGood 12 (.side a b)) (hn : n ≤ 2900) (k : ∀ h : Int, (h : Rat) = B * heightR P a b → sm (2 * n + 40) h → Q (.int h) S) : m_side_height [fcD (.side a b), wpD X Y B] S Q E := by
  obtain ⟨hne, ha, hb, hw⟩ := hf
  refine e_side_height ?_
  unfold t_side_height fcD
  walk_at "bl"
  refine steps_from_spec w ha (by omega) fun u hu => ?_
  walk_at "bl"
  refine outward_spec hne ha hb ?_
  have o := outw_ok hne ha hb hw
  walk_at "bl"
  refine dot_spec (n := n + 12) (hu.s1.mono (by omega)) (hu.s2.mono (by omega)) (o.s1.mono (by omega)) (o.s2.mono (by omega)) (by omega) ?_
  exact k _ hu.dot ((sm_dot (n := n + 12) (hu.s1.mono (by omega)) (hu.s2.mono (by omega)) (o.s1.mono (by omega)) (o.s2.mono (by omega))).mono (by omega))
theorem is_beside_spec {P : R2} {a b : P2} {n : Nat} {X Y B : Int} {S : Sto} {Q : DK} {E : EK} (w : Wp n P X Y B) (ha : Bd a) (hb : Bd b) (hn : n ≤ 2900) (k : Q (.bl (decide (besideR P a b))) S) : m_is_beside [fcD (.side a b), wpD X Y B] S Q E := by
  refine e_is_beside ?_
  unfold t_is_beside fcD
  obtain ⟨s1, s2⟩ := sm_dif hb ha
  walk_at "bl"
  refine step_spec ?_
  walk_at "bl"
  refine steps_from_spec w ha (by omega) fun u hu => ?_
  walk_at "bl"
  refine dot_spec (n := n + 12) (hu.s1.mono (by omega)) (hu.s2.mono (by omega)) (s1.mono (by omega)) (s2.mono (by omega)) (by omega) ?_
  have e := hu.dot (v := dif b a)
  walk_at "bl"
  have g0 := sc_nonneg w.b0 e
  by_cases h0 : 0 ≤ dot u (dif b a)
  · rw [decide_eq_true h0]
    show (dTwo (dCall m_dot_of 2 0 (fun ds _ => ds) (aCons (vr 2) (aCons (vr 2) (aNil))) aNil) (dTwo (vr 1) (cn (.int 2)) fIx) fMul) _ _ _ _
    walk_at "bl"
    refine dot_spec (n := 12) s1 s2 s1 s2 (by omega) ?_
    walk_at "bl"
    refine Go.mul ((sm_dot s1 s2 s1 s2).cmul w.sb (by omega)) ?_
    walk_at "bl"
    have e2 : ((dot (dif b a) (dif b a) * B - dot u (dif b a) : Int) : Rat) = B * ((dot (dif b a) (dif b a) : Rat) - dotR (difR P a) (dif b a)) := by
      simp only [Rat.intCast_sub, Rat.intCast_mul]
      rw [e]
      grind
    have g1 := sc_nonneg w.b0 e2
    have : decide (dot u (dif b a) ≤ dot (dif b a) (dif b a) * B) = decide (besideR P a b) := by
      rw [decide_eq_decide]
      unfold besideR
      rw [← g0]
      have g2 : dotR (difR P a) (dif b a) ≤ (dot (dif b a) (dif b a) : Rat) ↔ 0 ≤ (dot (dif b a) (dif b a) : Rat) - dotR (difR P a) (dif b a) := Rat.le_iff_sub_nonneg _ _
      rw [g2, ← g1]
      omega
    rw [this]
    exact k
  · rw [decide_eq_false h0]
    have : decide (besideR P a b) = false := decide_eq_false fun z => h0 (g0.mpr z.1)
    rw [this] at k
    exact k
theorem is_out_spec {u : P2} {c f l : P2} {r : Int} {n : Nat} {S : Sto} {Q : DK} {E : EK} (f1 : sm n f.1) (f2 : sm n f.2) (l1 : sm n l.1) (l2 : sm n l.2) (u1 : sm n u.1) (u2 : sm n u.2) (hn : n ≤ 4000) (k : Q (.bl (decide (f = l ∨ (0 ≤ crs f u ∧ 0 ≤ crs u l)))) S) : m_is_out [fcD (.round c r f l), pt u] S Q E := by
  refine e_is_out ?_
  unfold t_is_out fcD
  walk_at "bl"
  refine eq_pt ?_
  walk_at "bl"
  refine Go.ifD (fun h => ?_) fun h => ?_
  · walk_at "bl"
    rw [decide_eq_true (.inl h)] at k
    exact k
  walk_at "bl"
  refine cross_spec f1 f2 u1 u2 hn ?_
  walk_at "bl"
  refine Go.ifD (fun h1 => ?_) fun h1 => ?_
  · walk_at "bl"
    refine cross_spec u1 u2 l1 l2 hn ?_
    walk_at "bl"
    have : decide (0 ≤ crs u l) = decide (f = l ∨ (0 ≤ crs f u ∧ 0 ≤ crs u l)) := by
      rw [decide_eq_decide]
      exact ⟨fun z => .inr ⟨h1, z⟩, fun z => z.elim (fun z => absurd z h) (·.2)⟩
    rw [this]
    exact k
  · walk_at "bl"
    rw [decide_eq_false (fun z => z.elim h fun z => h1 z.1)] at k
    exact k
theorem is_spoked_spec {P : R2} {f : Fc} {n : Nat} {X Y B : Int} {S : Sto} {Q : DK} {E : EK} (w : Wp n P X Y B) (hf : FcGood 12 f) (hn : n ≤ 2900) (k : Q (.bl (decide (spokedR P f))) S) : m_is_spoked [fcD f, wpD X Y B] S Q E := by
  refine e_is_spoked ?_
  unfold t_is_spoked
  cases f with
  | side a b =>
    obtain ⟨hne, ha, hb, hw⟩ := id hf
    unfold fcD
    walk_at "bl"
    refine side_height_spec (a := a) (b := b) w hf hn fun h eh sh => ?_
    have g := sc_pos w.b0 eh
    walk_at "bl"
    refine Go.ifD (fun h0 => ?_) fun h0 => ?_
    · walk_at "bl"
      refine is_beside_spec (a := a) (b := b) w ha hb hn ?_
      have : decide (besideR P a b) = decide (spokedR P (.side a b)) := by
        rw [decide_eq_decide]
        exact ⟨fun z => ⟨g.mp h0, z⟩, (·.2)⟩
      rw [this]
      exact k
    · walk_at "bl"
      rw [decide_eq_false (fun z => h0 (g.mpr z.1))] at k
      exact k
  | round c r f l =>
    obtain ⟨hf1, hl1, hc, hr0, hr⟩ := hf
    unfold fcD
    walk_at "bl"
    refine steps_from_spec w hc (by omega) fun u hu => ?_
    walk_at "bl"
    refine dot_spec (n := n + 11) hu.s1 hu.s2 hu.s1 hu.s2 (by omega) ?_
    have e := hu.nrm
    walk_at "bl"
    refine Go.mul (hr.cmul w.sb (by omega)) ?_
    walk_at "bl"
    refine Go.pow2 (hr.mul w.sb) (by omega) ?_
    walk_at "bl"
    have hBB : 0 < B * B := Int.mul_pos w.b0 w.b0
    have e2 : ((dot u u - r * B * (r * B) : Int) : Rat) = (B * B : Int) * (nrm (difR P c) - ((r * r : Int) : Rat)) := by
      simp only [Rat.intCast_sub]
      rw [e]
      simp only [Rat.intCast_mul]
      grind
    have g := sc_nonpos hBB e2
    have g2 : nrm (difR P c) ≤ ((r * r : Int) : Rat) ↔ dot u u ≤ r * B * (r * B) := by
      have : nrm (difR P c) ≤ ((r * r : Int) : Rat) ↔ nrm (difR P c) - ((r * r : Int) : Rat) ≤ 0 := by
        constructor <;> intro h <;> grind
      rw [this, ← g]
      omega
    refine Go.ifD (fun h0 => ?_) fun h0 => ?_
    · walk_at "bl"
      rw [decide_eq_false (fun z => z.1 (g2.mpr h0))] at k
      exact k
    · walk_at "bl"
      refine is_out_spec (n := n + 12) (c := c) (r := r) (hf1.s1.mono (by omega)) (hf1.s2.mono (by omega)) (hl1.s1.mono (by omega)) (hl1.s2.mono (by omega)) (hu.s1.mono (by omega)) (hu.s2.mono (by omega)) (by omega) ?_
      have c1 := hu.crs (v := f)
      have c2 := hu.crs (v := l)
      have g3 := sc_nonpos w.b0 c1
      have g4 := sc_nonneg w.b0 c2
      have : decide (f = l ∨ (0 ≤ crs f u ∧ 0 ≤ crs u l)) = decide (spokedR P (.round c r f l)) := by
        rw [decide_eq_decide]
        show (f = l ∨ (0 ≤ crs f u ∧ 0 ≤ crs u l)) ↔ (¬ nrm (difR P c) ≤ ((r * r : Int) : Rat) ∧ (f = l ∨ (crsR (difR P c) f ≤ 0 ∧ 0 ≤ crsR (difR P c) l)))
        rw [← g3, ← g4, crs_flip f u]
        constructor
        · rintro (z | ⟨z1, z2⟩)
          · exact ⟨fun q => h0 (g2.mp q), .inl z⟩
          · exact ⟨fun q => h0 (g2.mp q), .inr ⟨by omega, z2⟩⟩
        · rintro ⟨_, z | ⟨z1, z2⟩⟩
          · exact .inl z
          · exact .inr ⟨by omega, z2⟩
      rw [this]
      exact k
/-! the faces at a place -/
def enumF : Int → List D → List D
  | _, [] => []
  | i, d :: ds => .tup [.int i, d] :: enumF (i + 1) ds
theorem enumF_get : ∀ (ds : List D) (i : Int) (j : Nat), (enumF i ds)[j]? = (ds[j]?).map fun d => D.tup [.int (i + j), d]
  | [], i, j => by simp [enumF]
  | d :: ds, i, 0 => by simp [enumF]
  | d :: ds, i, j + 1 => by
    unfold enumF
    rw [List.getElem?_cons_succ, List.getElem?_cons_succ, enumF_get ds (i + 1) j]
    have : i + 1 + (j : Int) = i + ((j + 1 : Nat) : Int) := by omega
    rw [this]
theorem enumD_eq (ds : List D) : enumD ds = enumF 0 ds := by
  apply List.ext_getElem?
  intro j
  rw [enumF_get]
  cases h : ds[j]? with
  | none =>
    rw [List.getElem?_eq_none (by rw [enumD_len]; exact List.getElem?_eq_none_iff.mp h)]
    rfl
  | some d =>
    rw [enumD_get h]
    simp
def idxF (P : R2) : Int → List Fc → List Int
  | _, [] => []
  | i, f :: fs => if spokedR P f then i :: idxF P (i + 1) fs else idxF P (i + 1) fs
theorem idx_head (P : R2) : ∀ (fs : List Fc) (i : Int), (idxF P i fs = [] ∧ fs.find? (fun f => decide (spokedR P f)) = none) ∨ ∃ (j : Nat) (r : List Int) (f : Fc), idxF P i fs = (i + j) :: r ∧ fs.find? (fun f => decide (spokedR P f)) = some f ∧ fs[j]? = some f
  | [], i => .inl ⟨rfl, rfl⟩
  | f :: fs, i => by
    unfold idxF
    rw [List.find?_cons]
    by_cases h : spokedR P f
    · rw [if_pos h, decide_eq_true h]
      exact .inr ⟨0, _, f, by rw [show i + ((0 : Nat) : Int) = i by omega], rfl, rfl⟩
    · rw [if_neg h, decide_eq_false h]
      rcases idx_head P fs (i + 1) with ⟨h1, h2⟩ | ⟨j, r, g, h1, h2, h3⟩
      · exact .inl ⟨h1, h2⟩
      · exact .inr ⟨j + 1, r, g, by rw [h1]; congr 1; omega, h2, h3⟩
theorem faces_at_spec {t : Th} {d : D} {P : R2} {n : Nat} {S : Sto} {Q : DK} {E : EK} (ht : GoodTh t) (hd : Pl d P) (hP : PR n P) (hn : n ≤ 950) (k : Q (.tup ((idxF P 0 (facesL t)).map D.int)) S) : m_faces_at [thD t, d] S Q E := by
  refine e_faces_at ?_
  unfold t_faces_at
  walk_at "bl"
  refine whole_place_spec hd hP hn fun X Y B w => ?_
  walk_at "bl"
  refine faces_spec ht ?_
  unfold fcsD
  walk_at "bl"
  refine Go.enumT ?_
  rw [enumD_eq]
  have hl : (facesL t).length ≤ 4 := by cases t <;> simp [facesL]
  have hel : ∀ (ds : List D) (i : Int), (enumF i ds).length = ds.length := by
    intro ds
    induction ds with
    | nil => intro i; rfl
    | cons d ds ih => intro i; unfold enumF; rw [List.length_cons, List.length_cons, ih]
  refine Go.lc' (by rw [hel, List.length_map]; exact Nat.lt_of_le_of_lt hl (by decide)) ?_
  walk_at "bl"
  have go : ∀ (fs : List Fc) (i : Int) (R : List D → Sto → Prop), (∀ f ∈ fs, FcGood 12 f) → R ((idxF P i fs).map D.int) S → lcGo (.tp [.nm 4, .nm 5]) (ttr (dCall m_is_spoked 2 0 (fun ds _ => ds) (aCons (vr 5) (aCons (vr 2) (aNil))) aNil)) (vr 4) [some (thD t), some d, some (wpD X Y B), none, none, none] (enumF i (fs.map fcD)) S R := by
    intro fs
    induction fs with
    | nil => intro i R _ h; exact h
    | cons f fs ih =>
      intro i R hf h
      rw [List.map_cons]
      unfold enumF
      refine Go.lg_cons ?_
      walk_at "bl"
      refine is_spoked_spec w (hf f (List.mem_cons_self ..)) (by omega) ?_
      unfold idxF at h
      walk_at "bl"
      refine Go.ifD (fun h0 => ?_) fun h0 => ?_
      · rw [if_pos h0] at h
        walk_at "bl"
        exact ih (i + 1) _ (fun g hg => hf g (List.mem_cons_of_mem _ hg)) h
      · rw [if_neg h0] at h
        exact ih (i + 1) _ (fun g hg => hf g (List.mem_cons_of_mem _ hg)) h
  refine go (facesL t) 0 _ (faces_good ht) ?_
  walk_at "bl"
  exact k
end Ld

namespace Ld
open PySem PySem.Spec PyProof.Rows L2 Bl Lb
local macro_rules | `(tactic| walk_at "bl0") => `(tactic| (with_reducible (first
  | (refine Go.gVr ?_; first | refine Go.vr0 ?_ | refine Go.vr1 ?_ | refine Go.vr2 ?_ | refine Go.vr3 ?_ | refine Go.vr4 ?_ | refine Go.vr5 ?_ | refine Go.vr6 ?_ | refine Go.vr7 ?_ | refine Go.vr8 ?_ | refine Go.vr9 ?_ | refine Go.vr10 ?_ | refine Go.vr11 ?_ | refine Go.vr12 ?_ | refine Go.vr13 ?_ | refine Go.vr14 ?_ | refine Go.vr15 ?_ | refine Go.vr16 ?_ | refine Go.vr17 ?_ | refine Go.vr18 ?_ | refine Go.vr19 ?_ | refine Go.vr20 ?_ | refine Go.vr21 ?_ | refine Go.vr22 ?_ | refine Go.vr23 ?_)
  | refine Go.seq ?_
  | refine Go.nx' ?_
  | refine Go.ret ?_
  | refine Go.if' ?_
  | refine Go.asg ?_
  | refine Go.par ?_
  | refine Go.drop ?_
  | refine Go.brk ?_
  | refine Go.cnt ?_
  | refine Go.raise ?_
  | refine Go.thru ?_
  | refine Go.tryAs ?_
  | refine Go.for' ?_
  | refine Go.sub ?_
  | refine Go.retN ?_
  | refine Go.par_cons ?_
  | refine Go.par_nil ?_
  | refine Go.cn' ?_
  | refine Go.two ?_
  | refine Go.nil ?_
  | refine Go.cons ?_
  | refine Go.tup ?_
  | refine Go.lst ?_
  | refine Go.lstR ?_
  | refine Go.tbl' ?_
  | refine Go.tblK' ?_
  | refine Go.ttr' ?_
  | refine Go.truB ?_
  | refine Go.truI ?_
  | refine Go.truN ?_
  | refine Go.and' ?_
  | refine Go.or' ?_
  | refine Go.not' ?_
  | refine Go.vOf' ?_
  | refine Go.vNot' ?_
  | refine Go.eIf' ?_
  | refine Go.ifT ?_
  | refine Go.ifF ?_
  | refine Go.ifN ?_
  | refine Go.add ?_
  | refine Go.sub' ?_
  | refine Go.lt ?_
  | refine Go.le ?_
  | refine Go.gt ?_
  | refine Go.ge ?_
  | refine Go.eqI ?_
  | refine Go.neI ?_
  | refine Go.is' ?_
  | refine Go.isNot' ?_
  | refine Go.chain ?_
  | refine Go.dB' ?_
  | refine Go.neg ?_
  | refine Go.neg' ?_
  | refine Go.abs' ?_
  | refine Go.lenT ?_
  | refine Go.lenL ?_
  | refine Go.max' ?_
  | refine Go.min' ?_
  | refine Go.intI ?_
  | refine Go.intB ?_
  | refine Go.tupL ?_
  | refine Go.tupT ?_
  | refine Go.isi ?_
  | refine Go.call ?_
  | refine Go.iVal' ?_
  | refine Go.iValT ?_
  | refine Go.iValL ?_
  | refine Go.r1 ?_
  | refine Go.r2 ?_
  | refine Go.star ?_
  | refine Go.l_cons ?_
  | refine Go.l_nil ?_
  | refine Go.enum' ?_
  | refine Go.rev' ?_
  | refine Go.zip' ?_
  | refine Go.wipe_nil ?_
  | refine Go.wipe_cons ?_
  | refine Go.iadd ?_
  | refine Go.sl ?_
  | refine Go.oN ?_
  | refine Go.oS ?_
  | refine Go.osK' ?_
  | refine Go.getL ?_
  | refine Go.lc ?_
  | refine Go.lcR ?_
  | refine Go.lg_nil ?_
  | refine Go.lg_cons ?_
  | refine Go.yes ?_
  | refine Go.for_nil ?_
  | refine Go.for_cons ?_
  | refine Go.revT ?_
  | refine Go.revL ?_
  | refine Go.zipT ?_
  | refine Go.zipL ?_
  | refine Go.tupK' rfl ?_
  | refine Go.lstK' rfl ?_
  | refine Go.callK' rfl rfl ?_
  | refine Go.lcL rfl ?_
  | refine Go.getLL' rfl ?_
  | refine Go.addT rfl ?_
  | (refine Go.gAsg ?_; first | refine Go.set0 ?_ | refine Go.set1 ?_ | refine Go.set2 ?_ | refine Go.set3 ?_ | refine Go.set4 ?_ | refine Go.set5 ?_ | refine Go.set6 ?_ | refine Go.set7 ?_ | refine Go.set8 ?_ | refine Go.set9 ?_ | refine Go.set10 ?_ | refine Go.set11 ?_ | refine Go.set12 ?_ | refine Go.set13 ?_ | refine Go.set14 ?_ | refine Go.set15 ?_ | refine Go.set16 ?_ | refine Go.set17 ?_ | refine Go.set18 ?_ | refine Go.set19 ?_ | refine Go.set20 ?_ | refine Go.set21 ?_ | refine Go.set22 ?_ | refine Go.set23 ?_ | refine Go.tp_cons ?_ | refine Go.tp_nil ?_)
  | (refine Go.gIxT ?_; first | refine Go.ixT0 ?_ | refine Go.ixT1 ?_ | refine Go.ixT2 ?_ | refine Go.ixT3 ?_ | refine Go.ixT4 ?_ | refine Go.ixT5 ?_ | refine Go.ixT6 ?_ | refine Go.ixT7 ?_)
  | (refine Go.gIxL ?_; first | refine Go.ixL0 ?_ | refine Go.ixL1 ?_ | refine Go.ixL2 ?_ | refine Go.ixL3 ?_ | refine Go.ixL4 ?_ | refine Go.ixL5 ?_ | refine Go.ixL6 ?_ | refine Go.ixL7 ?_)
  | (refine Go.gAug ?_; first | refine Go.aug0 ?_ | refine Go.aug1 ?_ | refine Go.aug2 ?_ | refine Go.aug3 ?_ | refine Go.aug4 ?_ | refine Go.aug5 ?_ | refine Go.aug6 ?_ | refine Go.aug7 ?_ | refine Go.aug8 ?_ | refine Go.aug9 ?_ | refine Go.aug10 ?_ | refine Go.aug11 ?_ | refine Go.aug12 ?_ | refine Go.aug13 ?_ | refine Go.aug14 ?_ | refine Go.aug15 ?_ | refine Go.aug16 ?_ | refine Go.aug17 ?_ | refine Go.aug18 ?_ | refine Go.aug19 ?_ | refine Go.aug20 ?_ | refine Go.aug21 ?_ | refine Go.aug22 ?_ | refine Go.aug23 ?_)
  | (refine Go.gStar ?_; first | refine Go.startup0 ?_ | refine Go.starlst0 ?_ | refine Go.startup1 ?_ | refine Go.starlst1 ?_ | refine Go.startup2 ?_ | refine Go.starlst2 ?_ | refine Go.startup3 ?_ | refine Go.starlst3 ?_ | refine Go.startup4 ?_ | refine Go.starlst4 ?_ | refine Go.startup_2 ?_ | refine Go.starlst_2 ?_ | refine Go.startup_3 ?_ | refine Go.starlst_3 ?_ | refine Go.startup_4 ?_ | refine Go.starlst_4 ?_)
  | refine Go.slfT1 ?_ | refine Go.sltT1 ?_ | refine Go.slfL1 ?_ | refine Go.sltL1 ?_ | refine Go.slfT2 ?_ | refine Go.sltT2 ?_ | refine Go.slfL2 ?_ | refine Go.sltL2 ?_ | refine Go.slfT3 ?_ | refine Go.sltT3 ?_ | refine Go.slfL3 ?_ | refine Go.sltL3 ?_ | refine Go.slfT4 ?_ | refine Go.sltT4 ?_ | refine Go.slfL4 ?_ | refine Go.sltL4 ?_
  | (refine Go.gUns ?_; first | refine Go.uns0 ?_ | refine Go.uns1 ?_ | refine Go.uns2 ?_ | refine Go.uns3 ?_ | refine Go.uns4 ?_ | refine Go.uns5 ?_ | refine Go.uns6 ?_ | refine Go.uns7 ?_ | refine Go.uns8 ?_ | refine Go.uns9 ?_ | refine Go.uns10 ?_ | refine Go.uns11 ?_ | refine Go.uns12 ?_ | refine Go.uns13 ?_ | refine Go.uns14 ?_ | refine Go.uns15 ?_ | refine Go.uns16 ?_ | refine Go.uns17 ?_ | refine Go.uns18 ?_ | refine Go.uns19 ?_ | refine Go.uns20 ?_ | refine Go.uns21 ?_ | refine Go.uns22 ?_ | refine Go.uns23 ?_)
  | refine Go.entup0 ?_ | refine Go.enlst0 ?_ | refine Go.entup1 ?_ | refine Go.enlst1 ?_ | refine Go.entup2 ?_ | refine Go.enlst2 ?_ | refine Go.entup3 ?_ | refine Go.enlst3 ?_ | refine Go.entup4 ?_ | refine Go.enlst4 ?_ | refine Go.entup5 ?_ | refine Go.enlst5 ?_ | refine Go.entup6 ?_ | refine Go.enlst6 ?_)))
local macro_rules | `(tactic| walk_at "bl1") => `(tactic| first | ((with_reducible refine Go.gEqS ?_); (first | refine Go.eqS (b := true) ⟨rfl, by decide +kernel⟩ ⟨rfl, by decide +kernel⟩ rfl ?_ | refine Go.eqS (b := false) ⟨rfl, by decide +kernel⟩ ⟨rfl, by decide +kernel⟩ rfl ?_)) | ((with_reducible refine Go.gNeS ?_); (first | refine Go.neS (b := true) ⟨rfl, by decide +kernel⟩ ⟨rfl, by decide +kernel⟩ rfl ?_ | refine Go.neS (b := false) ⟨rfl, by decide +kernel⟩ ⟨rfl, by decide +kernel⟩ rfl ?_)) | walk_at "bl0" | ((with_reducible refine Go.gAll ?_); (refine Go.allB (by rfl) ?_)) | ((with_reducible refine Go.gIxT ?_); (refine Go.ixT (by rfl) ?_)) | ((with_reducible refine Go.gIxL ?_); (refine Go.ixL (by rfl) ?_)))
local macro_rules | `(tactic| walk_at "bl") => `(tactic| (repeat walk_at "bl1"))
/-! ### how far a place is out of a face, and the distance -/
def fdR (P : R2) : Fc → Rt
  | .side a b => ⟨heightR P a b / (lenq (outw a b) : Int), 0, 0⟩
  | .round c r _ _ => canon ((0 - r : Int) : Rat) 1 (nrm (difR P c))
theorem nrm_nonneg (u : R2) : 0 ≤ nrm u := by
  have := sq_nonneg u.1
  have := sq_nonneg u.2
  unfold nrm
  grind
theorem dif_sr {n : Nat} {P : R2} {c : P2} (hP : PR n P) (hc : Bd c) : sr (n + 11) (difR P c).1 ∧ sr (n + 11) (difR P c).2 := by
  have h1 : sr 10 ((c.1 : Int) : Rat) := sr.int (sm_of_le hc.1 (by decide)) (by decide)
  have h2 : sr 10 ((c.2 : Int) : Rat) := sr.int (sm_of_le hc.2 (by decide)) (by decide)
  unfold difR
  rw [Rat.sub_eq_add_neg, Rat.sub_eq_add_neg]
  exact ⟨hP.x.add h1.neg, hP.y.add h2.neg⟩
theorem nrm_sr {n : Nat} {P : R2} {c : P2} (hP : PR n P) (hc : Bd c) : sr (4 * n + 45) (nrm (difR P c)) := by
  obtain ⟨h1, h2⟩ := dif_sr hP hc
  unfold nrm
  exact ((h1.mul h1).add (h2.mul h2)).mono (by omega)
theorem from_frac_spec {r : Rat} {S : Sto} {Q : DK} {E : EK} (k : Q (rt ⟨r, 0, 0⟩) S) : m_from_frac [fr r] S Q E := by
  refine e_from_frac ?_
  unfold t_from_frac
  walk_at "bl"
  exact k
theorem face_distance_spec {P : R2} {f : Fc} {n : Nat} {X Y B : Int} {S : Sto} {Q : DK} {E : EK} (w : Wp (3 * n + 2) P X Y B) (hP : PR n P) (hf : FcGood 12 f) (hn : n ≤ 200) (k : Q (rt (fdR P f)) S) : m_face_distance [fcD f, wpD X Y B] S Q E := by
  refine e_face_distance ?_
  unfold t_face_distance
  cases f with
  | side a b =>
    obtain ⟨hne, ha, hb, hw⟩ := id hf
    have o := outw_ok hne ha hb hw
    unfold fcD
    walk_at "bl"
    refine side_height_spec (a := a) (b := b) w hf (by omega) fun h eh sh => ?_
    walk_at "bl"
    refine outward_spec hne ha hb ?_
    walk_at "bl"
    refine length_spec o.s1 o.s2 (by omega) ?_
    have l0 := lenq_pos o.ne
    have ls := lenq_sm o.s1 o.s2
    walk_at "bl"
    refine Go.mul (ls.cmul w.sb (by omega)) ?_
    walk_at "bl"
    have hp := Int.mul_pos l0 w.b0
    refine frac_spec (n := 2 * (3 * n + 2) + 40) (r := heightR P a b / (lenq (outw a b) : Int)) (by omega) sh ((ls.mul w.sb).mono (by omega)) (by omega) ?_ ?_
    · rw [eh, Rat.intCast_mul, ← Rat.mul_assoc, Rat.div_mul_cancel (castne (by omega)), Rat.mul_comm]
    walk_at "bl"
    exact from_frac_spec k
  | round c r f l =>
    obtain ⟨hf1, hl1, hc, hr0, hr⟩ := hf
    unfold fcD
    walk_at "bl"
    refine steps_from_spec w hc (by omega) fun u hu => ?_
    walk_at "bl"
    refine dot_spec hu.s1 hu.s2 hu.s1 hu.s2 (by omega) ?_
    walk_at "bl"
    refine Go.mul (w.sb.cmul w.sb (by omega)) ?_
    have hp := Int.mul_pos w.b0 w.b0
    walk_at "bl"
    refine frac_spec (n := 2 * (3 * n + 2 + 11) + 1) (r := nrm (difR P c)) (by omega) ((sm_dot hu.s1 hu.s2 hu.s1 hu.s2).mono (by omega)) ((w.sb.mul w.sb).mono (by omega)) (by omega) ?_ ?_
    · rw [hu.nrm, Rat.mul_comm]
    walk_at "bl"
    refine root_spec (b := ((0 - r : Int) : Rat)) (n := 4 * n + 45) (sr.int (((sm.of (n := 25) (by decide)).sub hr).mono (by omega)) (by omega)) (nrm_sr hP hc) (nrm_nonneg _) (.inr (.inr rfl)) (by omega) ?_
    walk_at "bl"
    exact k
def firstR (t : Th) (P : R2) : Option Fc := (facesL t).find? (fun f => decide (spokedR P f))
def distR (t : Th) (P : R2) : Rt := match firstR t P with
  | none => ⟨0, 0, 0⟩
  | some f => fdR P f
theorem distance_spec {t : Th} {d : D} {P : R2} {n : Nat} {S : Sto} {Q : DK} {E : EK} (ht : GoodTh t) (hd : Pl d P) (hP : PR n P) (hn : n ≤ 200) (k : Q (rt (distR t P)) S) : m_distance [thD t, d] S Q E := by
  refine e_distance ?_
  unfold t_distance
  walk_at "bl"
  refine faces_at_spec ht hd hP (by omega) ?_
  unfold distR firstR at k
  have okl : okN 1 (.tup ((idxF P 0 (facesL t)).map D.int)) := okN_tup (okNs_all fun d hd => by
    obtain ⟨i, _, rfl⟩ := List.mem_map.mp hd
    exact okN_int i)
  rcases idx_head P (facesL t) 0 with ⟨h1, h2⟩ | ⟨j, r, f, h1, h2, h3⟩
  · rw [h2] at k
    rw [h1, List.map_nil]
    walk_at "bl"
    refine eq_refl (okN_tup okNs_nil) (by decide : 1 ≤ 64) ?_
    walk_at "bl"
    exact from_frac_spec (r := 0) k
  · rw [h2] at k
    rw [h1] at okl ⊢
    walk_at "bl"
    refine ⟨okl.ok (by decide), (okN_tup okNs_nil).ok (n := 1) (by decide), ?_⟩
    rw [show eqD (.tup (((0 + (j : Int)) :: r).map D.int)) (.tup []) = false from rfl]
    walk_at "bl"
    refine faces_spec ht ?_
    unfold fcsD
    rw [List.map_cons]
    walk_at "bl"
    rw [show (0 + (j : Int)) = (j : Int) by omega]
    refine Go.ixT (atI_nat (by rw [List.getElem?_map, h3]; rfl)) ?_
    walk_at "bl"
    refine whole_place_spec hd hP (by omega) fun X Y B w => ?_
    walk_at "bl"
    exact face_distance_spec w hP (faces_good ht f (List.mem_of_getElem? h3)) hn k
end Ld

namespace Ld
open PySem PySem.Spec PyProof.Rows L2 Bl Lb
local macro_rules | `(tactic| walk_at "bl0") => `(tactic| (with_reducible (first
  | (refine Go.gVr ?_; first | refine Go.vr0 ?_ | refine Go.vr1 ?_ | refine Go.vr2 ?_ | refine Go.vr3 ?_ | refine Go.vr4 ?_ | refine Go.vr5 ?_ | refine Go.vr6 ?_ | refine Go.vr7 ?_ | refine Go.vr8 ?_ | refine Go.vr9 ?_ | refine Go.vr10 ?_ | refine Go.vr11 ?_ | refine Go.vr12 ?_ | refine Go.vr13 ?_ | refine Go.vr14 ?_ | refine Go.vr15 ?_ | refine Go.vr16 ?_ | refine Go.vr17 ?_ | refine Go.vr18 ?_ | refine Go.vr19 ?_ | refine Go.vr20 ?_ | refine Go.vr21 ?_ | refine Go.vr22 ?_ | refine Go.vr23 ?_)
  | refine Go.seq ?_
  | refine Go.nx' ?_
  | refine Go.ret ?_
  | refine Go.if' ?_
  | refine Go.asg ?_
  | refine Go.par ?_
  | refine Go.drop ?_
  | refine Go.brk ?_
  | refine Go.cnt ?_
  | refine Go.raise ?_
  | refine Go.thru ?_
  | refine Go.tryAs ?_
  | refine Go.for' ?_
  | refine Go.sub ?_
  | refine Go.retN ?_
  | refine Go.par_cons ?_
  | refine Go.par_nil ?_
  | refine Go.cn' ?_
  | refine Go.two ?_
  | refine Go.nil ?_
  | refine Go.cons ?_
  | refine Go.tup ?_
  | refine Go.lst ?_
  | refine Go.lstR ?_
  | refine Go.tbl' ?_
  | refine Go.tblK' ?_
  | refine Go.ttr' ?_
  | refine Go.truB ?_
  | refine Go.truI ?_
  | refine Go.truN ?_
  | refine Go.and' ?_
  | refine Go.or' ?_
  | refine Go.not' ?_
  | refine Go.vOf' ?_
  | refine Go.vNot' ?_
  | refine Go.eIf' ?_
  | refine Go.ifT ?_
  | refine Go.ifF ?_
  | refine Go.ifN ?_
  | refine Go.add ?_
  | refine Go.sub' ?_
  | refine Go.lt ?_
  | refine Go.le ?_
  | refine Go.gt ?_
  | refine Go.ge ?_
  | refine Go.eqI ?_
  | refine Go.neI ?_
  | refine Go.is' ?_
  | refine Go.isNot' ?_
  | refine Go.chain ?_
  | refine Go.dB' ?_
  | refine Go.neg ?_
  | refine Go.neg' ?_
  | refine Go.abs' ?_
  | refine Go.lenT ?_
  | refine Go.lenL ?_
  | refine Go.max' ?_
  | refine Go.min' ?_
  | refine Go.intI ?_
  | refine Go.intB ?_
  | refine Go.tupL ?_
  | refine Go.tupT ?_
  | refine Go.isi ?_
  | refine Go.call ?_
  | refine Go.iVal' ?_
  | refine Go.iValT ?_
  | refine Go.iValL ?_
  | refine Go.r1 ?_
  | refine Go.r2 ?_
  | refine Go.star ?_
  | refine Go.l_cons ?_
  | refine Go.l_nil ?_
  | refine Go.enum' ?_
  | refine Go.rev' ?_
  | refine Go.zip' ?_
  | refine Go.wipe_nil ?_
  | refine Go.wipe_cons ?_
  | refine Go.iadd ?_
  | refine Go.sl ?_
  | refine Go.oN ?_
  | refine Go.oS ?_
  | refine Go.osK' ?_
  | refine Go.getL ?_
  | refine Go.lc ?_
  | refine Go.lcR ?_
  | refine Go.lg_nil ?_
  | refine Go.lg_cons ?_
  | refine Go.yes ?_
  | refine Go.for_nil ?_
  | refine Go.for_cons ?_
  | refine Go.revT ?_
  | refine Go.revL ?_
  | refine Go.zipT ?_
  | refine Go.zipL ?_
  | refine Go.tupK' rfl ?_
  | refine Go.lstK' rfl ?_
  | refine Go.callK' rfl rfl ?_
  | refine Go.lcL rfl ?_
  | refine Go.getLL' rfl ?_
  | refine Go.addT rfl ?_
  | (refine Go.gAsg ?_; first | refine Go.set0 ?_ | refine Go.set1 ?_ | refine Go.set2 ?_ | refine Go.set3 ?_ | refine Go.set4 ?_ | refine Go.set5 ?_ | refine Go.set6 ?_ | refine Go.set7 ?_ | refine Go.set8 ?_ | refine Go.set9 ?_ | refine Go.set10 ?_ | refine Go.set11 ?_ | refine Go.set12 ?_ | refine Go.set13 ?_ | refine Go.set14 ?_ | refine Go.set15 ?_ | refine Go.set16 ?_ | refine Go.set17 ?_ | refine Go.set18 ?_ | refine Go.set19 ?_ | refine Go.set20 ?_ | refine Go.set21 ?_ | refine Go.set22 ?_ | refine Go.set23 ?_ | refine Go.tp_cons ?_ | refine Go.tp_nil ?_)
  | (refine Go.gIxT ?_; first | refine Go.ixT0 ?_ | refine Go.ixT1 ?_ | refine Go.ixT2 ?_ | refine Go.ixT3 ?_ | refine Go.ixT4 ?_ | refine Go.ixT5 ?_ | refine Go.ixT6 ?_ | refine Go.ixT7 ?_)
  | (refine Go.gIxL ?_; first | refine Go.ixL0 ?_ | refine Go.ixL1 ?_ | refine Go.ixL2 ?_ | refine Go.ixL3 ?_ | refine Go.ixL4 ?_ | refine Go.ixL5 ?_ | refine Go.ixL6 ?_ | refine Go.ixL7 ?_)
  | (refine Go.gAug ?_; first | refine Go.aug0 ?_ | refine Go.aug1 ?_ | refine Go.aug2 ?_ | refine Go.aug3 ?_ | refine Go.aug4 ?_ | refine Go.aug5 ?_ | refine Go.aug6 ?_ | refine Go.aug7 ?_ | refine Go.aug8 ?_ | refine Go.aug9 ?_ | refine Go.aug10 ?_ | refine Go.aug11 ?_ | refine Go.aug12 ?_ | refine Go.aug13 ?_ | refine Go.aug14 ?_ | refine Go.aug15 ?_ | refine Go.aug16 ?_ | refine Go.aug17 ?_ | refine Go.aug18 ?_ | refine Go.aug19 ?_ | refine Go.aug20 ?_ | refine Go.aug21 ?_ | refine Go.aug22 ?_ | refine Go.aug23 ?_)
  | (refine Go.gStar ?_; first | refine Go.startup0 ?_ | refine Go.starlst0 ?_ | refine Go.startup1 ?_ | refine Go.starlst1 ?_ | refine Go.startup2 ?_ | refine Go.starlst2 ?_ | refine Go.startup3 ?_ | refine Go.starlst3 ?_ | refine Go.startup4 ?_ | refine Go.starlst4 ?_ | refine Go.startup_2 ?_ | refine Go.starlst_2 ?_ | refine Go.startup_3 ?_ | refine Go.starlst_3 ?_ | refine Go.startup_4 ?_ | refine Go.starlst_4 ?_)
  | refine Go.slfT1 ?_ | refine Go.sltT1 ?_ | refine Go.slfL1 ?_ | refine Go.sltL1 ?_ | refine Go.slfT2 ?_ | refine Go.sltT2 ?_ | refine Go.slfL2 ?_ | refine Go.sltL2 ?_ | refine Go.slfT3 ?_ | refine Go.sltT3 ?_ | refine Go.slfL3 ?_ | refine Go.sltL3 ?_ | refine Go.slfT4 ?_ | refine Go.sltT4 ?_ | refine Go.slfL4 ?_ | refine Go.sltL4 ?_
  | (refine Go.gUns ?_; first | refine Go.uns0 ?_ | refine Go.uns1 ?_ | refine Go.uns2 ?_ | refine Go.uns3 ?_ | refine Go.uns4 ?_ | refine Go.uns5 ?_ | refine Go.uns6 ?_ | refine Go.uns7 ?_ | refine Go.uns8 ?_ | refine Go.uns9 ?_ | refine Go.uns10 ?_ | refine Go.uns11 ?_ | refine Go.uns12 ?_ | refine Go.uns13 ?_ | refine Go.uns14 ?_ | refine Go.uns15 ?_ | refine Go.uns16 ?_ | refine Go.uns17 ?_ | refine Go.uns18 ?_ | refine Go.uns19 ?_ | refine Go.uns20 ?_ | refine Go.uns21 ?_ | refine Go.uns22 ?_ | refine Go.uns23 ?_)
  | refine Go.entup0 ?_ | refine Go.enlst0 ?_ | refine Go.entup1 ?_ | refine Go.enlst1 ?_ | refine Go.entup2 ?_ | refine Go.enlst2 ?_ | refine Go.entup3 ?_ | refine Go.enlst3 ?_ | refine Go.entup4 ?_ | refine Go.enlst4 ?_ | refine Go.entup5 ?_ | refine Go.enlst5 ?_ | refine Go.entup6 ?_ | refine Go.enlst6 ?_)))
local macro_rules | `(tactic| walk_at "bl1") => `(tactic| first | ((with_reducible refine Go.gEqS ?_); (first | refine Go.eqS (b := true) ⟨rfl, by decide +kernel⟩ ⟨rfl, by decide +kernel⟩ rfl ?_ | refine Go.eqS (b := false) ⟨rfl, by decide +kernel⟩ ⟨rfl, by decide +kernel⟩ rfl ?_)) | ((with_reducible refine Go.gNeS ?_); (first | refine Go.neS (b := true) ⟨rfl, by decide +kernel⟩ ⟨rfl, by decide +kernel⟩ rfl ?_ | refine Go.neS (b := false) ⟨rfl, by decide +kernel⟩ ⟨rfl, by decide +kernel⟩ rfl ?_)) | walk_at "bl0" | ((with_reducible refine Go.gAll ?_); (refine Go.allB (by rfl) ?_)) | ((with_reducible refine Go.gIxT ?_); (refine Go.ixT (by rfl) ?_)) | ((with_reducible refine Go.gIxL ?_); (refine Go.ixL (by rfl) ?_)))
local macro_rules | `(tactic| walk_at "bl") => `(tactic| (repeat walk_at "bl1"))
/-! ### what the laws draw by -/
theorem powG {i j : Int} {n m : Nat} {S : Sto} {Q : DK} (h : sm n i) (e : j = m) (hm : (n + 1) * m ≤ 2 ^ 27) (k : Q (.int (i ^ m)) S) : fPow (.int i) (.int j) S Q := by
  subst e
  have := h.bits
  refine ⟨by omega, ?_, by rw [Int.toNat_natCast]; exact k⟩
  have z : Builtin.Int.intBits i * m ≤ (n + 1) * m := Nat.mul_le_mul_right _ this
  have : (Builtin.Int.intBits i : Int) * (m : Int) = ((Builtin.Int.intBits i * m : Nat) : Int) := by rw [Int.natCast_mul]
  omega
theorem take_spec {a : Addr} {many : Int} {S : Sto} {Q : DK} {E : EK} (hb : Bg S a) (h0 : 0 < many) (h1 : sm 9000 many) (k : ∀ d S', 0 ≤ d → d < many → Bg S' a → Fr S S' a → Q (.int d) S') : m_l_take [.ref a, .int many] S Q E := by
  obtain ⟨c, m, e, hc, hm, hm2⟩ := hb
  unfold m_l_take t_l_take
  simp only [e, fnD, sNx, sSeq, sRet, sRetN, sDrop, sIf, sBrk, sCnt, sAsg, sPar, sAug, sSub, setD, sThru, asgT, asgL, itemsOf, vr, cn, dTwo, tbl, ttr, truD_bl, truD_int, truD_non, truD_tup, truD_lst, truD_str, truD_ref, tAndD, tOrD, tNotD, vOf, eIf, vNot, dNeg, fAdd_int, fAdd_tup, fSub, fMul, fDiv, fMod, fPow, fShl, fLt, fLe, fGt, fGe, fEq, fNe, fIx_tup, fIx_lst, fIx_ref, aNil, aCons, dTup, dLst, dLstR, dB, bAbs, bLen_tup, bLen_lst, bLen_ref, bMax, bMin, bInt_int, bInt_bl, dBits, dCall, iVal, iR1, iR2, List.map_cons, List.map_nil, List.length_cons, List.length_nil, List.replicate, List.cons_append, List.nil_append, List.append_nil, List.set, List.getElem?_cons_zero, List.getElem?_cons_succ, List.getElem?_nil, atI_0, atI_1, atI_2, ix20, ix21, sup_same, Nat.reduceAdd, Nat.reduceSub, Nat.succ_eq_add_one, decide_eq_true_eq, Bool.not_eq_true', decide_eq_false_iff_not, true_and, and_true, Bool.true_eq_false, Bool.false_eq_true, if_true, if_false, reduceCtorEq]
  split
  · rename_i hc0
    exact ⟨by omega, h1.cdiv (by omega) (by omega), k _ _ (fmod_pos h0).1 (fmod_pos h0).2 ⟨_, _, sup_same, fdiv_nonneg h0 hc, hm, hm2⟩ Fr.sup⟩
  · have g := fmod_pos (a := m * 48271 + 11) (b := 2147483647) (by omega)
    refine ⟨(sm.of (n := 32) (by omega)).cmul (sm.of (n := 32) (by decide)) (by decide), by decide, ⟨by decide, by decide⟩, by decide, ?_, by decide, by omega, k _ _ (fmod_pos h0).1 (fmod_pos h0).2 ⟨_, _, sup_same, hc, g.1, by omega⟩ Fr.sup⟩
    have z := (sm.of (n := 31) (i := ((m * 48271 + 11).fmod 2147483647).fdiv 8) (by rw [Int.fdiv_eq_ediv_of_nonneg _ (by decide)]; omega)).bits
    omega
theorem primes {d : Int} (h0 : 0 ≤ d) (h1 : d < 8) : ∃ p : Int, 0 < p ∧ p < 2147483648 ∧ atI [D.int 2147483629, .int 2147483587, .int 2147483579, .int 2147483563, .int 2147483549, .int 2147483543, .int 2147483497, .int 2147483489] d = some (.int p) := by
  rcases (by omega : d = (0 : Nat) ∨ d = (1 : Nat) ∨ d = (2 : Nat) ∨ d = (3 : Nat) ∨ d = (4 : Nat) ∨ d = (5 : Nat) ∨ d = (6 : Nat) ∨ d = (7 : Nat)) with h | h | h | h | h | h | h | h <;> subst h <;> exact ⟨_, by decide, by decide, atI_nat rfl⟩
theorem bag_spec {ns : List Int} {i : Int} {S : Sto} {Q : DK} {E : EK} (h : 0 ≤ i) (h2 : i < 10000) (k : ∀ a S', S a = none → Bg S' a → Fr S S' a → Q (.ref a) S') : m_l_bag [.lst (ns.map D.int), .int i] S Q E := by
  refine e_l_bag ?_
  unfold t_l_bag
  have fin : ∀ c : Int, (sSeq (sAsg (cn (.int 0)) (.nm 3)) (sSeq (sIf (tbl (dTwo (dB bAbs (aCons (vr 2) (aNil))) (dTwo (cn (.int 10)) (cn (.int 18)) fPow) fGe)) (sAsg (dB bAbs (aCons (vr 2) (aNil))) (.nm 3)) (sNx)) (sSeq (sAsg (dLst (aCons (cn (.int 2147483629)) (aCons (cn (.int 2147483587)) (aCons (cn (.int 2147483579)) (aCons (cn (.int 2147483563)) (aCons (cn (.int 2147483549)) (aCons (cn (.int 2147483543)) (aCons (cn (.int 2147483497)) (aCons (cn (.int 2147483489)) (aNil)))))))))) (.nm 4)) (sRet (dLstR (aCons (vr 3) (aCons (dTwo (dTwo (dTwo (dTwo (dTwo (vr 2) (cn (.int 2147483647)) fMod) (dTwo (cn (.int 104729)) (vr 1) fMul) fAdd) (cn (.int 7)) fAdd) (cn (.int 5)) fPow) (dTwo (vr 4) (dTwo (vr 1) (cn (.int 8)) fMod) fIx) fMod) (aNil)))))))) [some (.lst (ns.map D.int)), some (.int i), some (.int c), none, none] S ⟨fun _ S1 => Q .non S1, Q, fun _ _ => False, fun _ _ => False, fun x _ S1 => E x S1⟩ := fun c => by
    have gc := fmod_pos (a := c) (b := 2147483647) (by decide)
    have gi := fmod_pos (a := i) (b := 8) (by decide)
    walk_at "bl"
    refine powG (n := 4) (m := 18) (sm.of (n := 4) (by decide)) rfl (by decide) ?_
    walk_at "bl"
    refine Go.ifD (fun hk => ?_) fun hk => ?_
    · have hg : 0 ≤ (if c < 0 then -c else c) := by split <;> omega
      walk_at "bl"
      refine Go.mod (by decide) ?_
      walk_at "bl"
      refine Go.mul ((sm.of (n := 17) (by decide)).cmul (sm.of (n := 14) (by omega)) (by decide)) ?_
      walk_at "bl"
      refine powG (n := 40) (m := 5) (by unfold sm; omega) rfl (by decide) ?_
      walk_at "bl"
      refine Go.mod (by decide) ?_
      obtain ⟨p, p0, p1, ep⟩ := primes gi.1 gi.2
      walk_at "bl"
      refine Go.ixL ep ?_
      walk_at "bl"
      refine Go.mod (by omega) ?_
      walk_at "bl"
      refine Go.lstRK' rfl fun a ha => ?_
      have gp := fmod_pos (a := (c.fmod 2147483647 + 104729 * i + 7) ^ 5) p0
      exact k a _ ha ⟨_, _, sup_same, hg, gp.1, by omega⟩ Fr.sup
    · have hg : (0 : Int) ≤ 0 := by decide
      walk_at "bl"
      refine Go.mod (by decide) ?_
      walk_at "bl"
      refine Go.mul ((sm.of (n := 17) (by decide)).cmul (sm.of (n := 14) (by omega)) (by decide)) ?_
      walk_at "bl"
      refine powG (n := 40) (m := 5) (by unfold sm; omega) rfl (by decide) ?_
      walk_at "bl"
      refine Go.mod (by decide) ?_
      obtain ⟨p, p0, p1, ep⟩ := primes gi.1 gi.2
      walk_at "bl"
      refine Go.ixL ep ?_
      walk_at "bl"
      refine Go.mod (by omega) ?_
      walk_at "bl"
      refine Go.lstRK' rfl fun a ha => ?_
      have gp := fmod_pos (a := (c.fmod 2147483647 + 104729 * i + 7) ^ 5) p0
      exact k a _ ha ⟨_, _, sup_same, hg, gp.1, by omega⟩ Fr.sup
  walk_at "bl"
  refine Go.ifD (fun hk => ?_) fun hk => ?_
  · rw [List.length_map] at hk
    obtain ⟨j, rfl⟩ := Int.eq_ofNat_of_zero_le h
    walk_at "bl"
    refine Go.ixL (atI_nat (by rw [List.getElem?_map, List.getElem?_eq_getElem (show j < ns.length by omega)]; rfl)) ?_
    exact fin _
  · exact fin 0
theorem turned_spec {p : P2} {n : Nat} {S : Sto} {Q : DK} {E : EK} (hn : n < 4) (k : Q (pt (rot n p)) S) : m_l_turned [pt p, .int n] S Q E := by
  refine e_l_turned ?_
  unfold t_l_turned
  walk_at "bl"
  refine Go.mod (by decide) ?_
  rw [show (n : Int).fmod 4 = (n : Int) from by rw [Int.fmod_eq_emod_of_nonneg _ (by decide)]; omega]
  walk_at "bl"
  refine Go.r1' rfl (by omega) ?_
  refine forD_rng (fun j e s => ∃ o, e = [some (pt p), some (.int n), some (.int (rot j p).1), some (.int (rot j p).2), o] ∧ s = S) ⟨_, rfl, rfl⟩ ?_ ?_
  · rintro j e s hj ⟨o, rfl, rfl⟩
    refine ⟨_, rfl, fun N' hnx _ _ _ _ => ?_⟩
    show sPar _ _ [some (pt p), some (.int n), some (.int (rot j p).1), some (.int (rot j p).2), some (.int (0 + j))] _ _
    walk_at "bl"
    exact hnx _ _ ⟨_, rfl, rfl⟩
  · rintro e s ⟨o, rfl, rfl⟩
    walk_at "bl"
    exact k
theorem low_spec {p q : Int} {n : Nat} {r : Rat} {S : Sto} {Q : DK} {E : EK} (hq : 0 < q) (hp : sm n p) (hs : sm n q) (hn : n ≤ 8900) (h : r * q = p) (k : Q (fr r) S) : m_l_low [.int p, .int q] S Q E := by
  unfold m_l_low t_l_low
  have z := low_loop (p := p) (q := q) (n := n) (r := r) (S := S) (N := ⟨fun _ S1 => Q .non S1, Q, fun _ _ => False, fun _ _ => False, fun x _ S1 => E x S1⟩) hq hp hs hn h k
  simp only [fnD, sNx, sSeq, sRet, sRetN, sDrop, sIf, sBrk, sCnt, sAsg, sPar, sAug, sSub, setD, sThru, asgT, asgL, itemsOf, vr, cn, dTwo, tbl, ttr, truD_bl, truD_int, truD_non, truD_tup, truD_lst, truD_str, truD_ref, tAndD, tOrD, tNotD, vOf, eIf, vNot, dNeg, fAdd_int, fAdd_tup, fSub, fMul, fDiv, fMod, fPow, fShl, fLt, fLe, fGt, fGe, fEq, fNe, fIx_tup, fIx_lst, fIx_ref, aNil, aCons, dTup, dLst, dLstR, dB, bAbs, bLen_tup, bLen_lst, bLen_ref, bMax, bMin, bInt_int, bInt_bl, dBits, dCall, iVal, iR1, iR2, List.map_cons, List.map_nil, List.length_cons, List.length_nil, List.replicate, List.cons_append, List.nil_append, List.append_nil, List.set, List.getElem?_cons_zero, List.getElem?_cons_succ, List.getElem?_nil, atI_0, atI_1, atI_2, ix20, ix21, sup_same, Nat.reduceAdd, Nat.reduceSub, Nat.succ_eq_add_one, decide_eq_true_eq, Bool.not_eq_true', decide_eq_false_iff_not, true_and, and_true, Bool.true_eq_false, Bool.false_eq_true, if_true, if_false, reduceCtorEq] at z ⊢
  exact z
theorem sum_spec {a b : Rat} {p q : Int} {n : Nat} {S : Sto} {Q : DK} {E : EK} (hp : p = b.num) (hq : q = b.den) (ha : sr n a) (hb : sr n b) (hn : n ≤ 1000) (k : Q (fr (a + b)) S) : m_l_sum [fr a, .tup [.int p, .int q]] S Q E := by
  subst hp
  subst hq
  refine e_l_sum ?_
  unfold t_l_sum
  have e1 := num_den a
  have e2 := num_den b
  walk_at "bl"
  refine Go.mul (ha.n.cmul hb.d (by omega)) ?_
  walk_at "bl"
  refine Go.mul (hb.n.cmul ha.d (by omega)) ?_
  walk_at "bl"
  refine Go.mul (ha.d.cmul hb.d (by omega)) ?_
  walk_at "bl"
  refine low_spec (n := n + n + 1) (Int.mul_pos (den_pos _) (den_pos _)) ((ha.n.mul hb.d).add (hb.n.mul ha.d)) ((ha.d.mul hb.d).mono (by omega)) (by omega) ?_ k
  simp only [Rat.intCast_mul, Rat.intCast_add]
  grind
theorem unders {d : Int} (h0 : 0 ≤ d) (h1 : d < 6) : ∃ p : Int, 0 < p ∧ p ≤ 12 ∧ atI [D.int 1, .int 1, .int 2, .int 3, .int 5, .int 12] d = some (.int p) := by
  rcases (by omega : d = (0 : Nat) ∨ d = (1 : Nat) ∨ d = (2 : Nat) ∨ d = (3 : Nat) ∨ d = (4 : Nat) ∨ d = (5 : Nat)) with h | h | h | h | h | h <;> subst h <;> exact ⟨_, by decide, by decide, atI_nat rfl⟩
theorem part_spec {a : Addr} {wide : Int} {S : Sto} {Q : DK} {E : EK} (hb : Bg S a) (h0 : 0 < wide) (h1 : wide ≤ 1000) (k : ∀ r S', sr 16 r → Bg S' a → Fr S S' a → Q (fr r) S') : m_l_part [.ref a, .int wide] S Q E := by
  refine e_l_part ?_
  unfold t_l_part
  walk_at "bl"
  refine take_spec hb (by omega) (sm_k (by decide)) fun d S1 d0 d1 b1 f1 => ?_
  obtain ⟨p, p0, p1, ep⟩ := unders d0 d1
  refine Go.ixL ep ?_
  have sw : sm 10 wide := by unfold sm; omega
  have sp : sm 4 p := by unfold sm; omega
  walk_at "bl"
  refine Go.mul ((sm.of (n := 2) (by decide)).cmul sw (by decide)) ?_
  walk_at "bl"
  refine Go.mul (((sm.of (n := 2) (by decide)).mul sw).cmul sp (by decide)) ?_
  have w0 : 0 < wide * p := Int.mul_pos h0 p0
  have w1 : wide * p ≤ 1000 * 12 := Int.mul_le_mul h1 p1 (by omega) (by omega)
  have e2 : 2 * wide * p = 2 * (wide * p) := by grind
  rw [e2]
  walk_at "bl"
  refine take_spec b1 (by omega) ((show sm 16 _ by unfold sm; omega).mono (by decide)) fun t S2 t0 t1 b2 f2 => ?_
  walk_at "bl"
  refine Go.mul (sw.cmul sp (by decide)) ?_
  walk_at "bl"
  have s1 : sm 16 (t - wide * p) := by unfold sm; omega
  have e : (((t - wide * p : Int) : Rat) / (p : Rat)) * (p : Rat) = ((t - wide * p : Int) : Rat) := Rat.div_mul_cancel (castne (by omega))
  refine low_spec p0 s1 (sp.mono (by decide)) (by decide) e ?_
  exact k _ S2 ⟨(low_sm (by omega) e s1 sp).1, (low_sm (by omega) e s1 sp).2.mono (by decide)⟩ b2 (f1.trans f2)
end Ld

namespace Ld
open PySem PySem.Spec PyProof.Rows L2 Bl Lb
local macro_rules | `(tactic| walk_at "bl0") => `(tactic| (with_reducible (first
  | (refine Go.gVr ?_; first | refine Go.vr0 ?_ | refine Go.vr1 ?_ | refine Go.vr2 ?_ | refine Go.vr3 ?_ | refine Go.vr4 ?_ | refine Go.vr5 ?_ | refine Go.vr6 ?_ | refine Go.vr7 ?_ | refine Go.vr8 ?_ | refine Go.vr9 ?_ | refine Go.vr10 ?_ | refine Go.vr11 ?_ | refine Go.vr12 ?_ | refine Go.vr13 ?_ | refine Go.vr14 ?_ | refine Go.vr15 ?_ | refine Go.vr16 ?_ | refine Go.vr17 ?_ | refine Go.vr18 ?_ | refine Go.vr19 ?_ | refine Go.vr20 ?_ | refine Go.vr21 ?_ | refine Go.vr22 ?_ | refine Go.vr23 ?_)
  | refine Go.seq ?_
  | refine Go.nx' ?_
  | refine Go.ret ?_
  | refine Go.if' ?_
  | refine Go.asg ?_
  | refine Go.par ?_
  | refine Go.drop ?_
  | refine Go.brk ?_
  | refine Go.cnt ?_
  | refine Go.raise ?_
  | refine Go.thru ?_
  | refine Go.tryAs ?_
  | refine Go.for' ?_
  | refine Go.sub ?_
  | refine Go.retN ?_
  | refine Go.par_cons ?_
  | refine Go.par_nil ?_
  | refine Go.cn' ?_
  | refine Go.two ?_
  | refine Go.nil ?_
  | refine Go.cons ?_
  | refine Go.tup ?_
  | refine Go.lst ?_
  | refine Go.lstR ?_
  | refine Go.tbl' ?_
  | refine Go.tblK' ?_
  | refine Go.ttr' ?_
  | refine Go.truB ?_
  | refine Go.truI ?_
  | refine Go.truN ?_
  | refine Go.and' ?_
  | refine Go.or' ?_
  | refine Go.not' ?_
  | refine Go.vOf' ?_
  | refine Go.vNot' ?_
  | refine Go.eIf' ?_
  | refine Go.ifT ?_
  | refine Go.ifF ?_
  | refine Go.ifN ?_
  | refine Go.add ?_
  | refine Go.sub' ?_
  | refine Go.lt ?_
  | refine Go.le ?_
  | refine Go.gt ?_
  | refine Go.ge ?_
  | refine Go.eqI ?_
  | refine Go.neI ?_
  | refine Go.is' ?_
  | refine Go.isNot' ?_
  | refine Go.chain ?_
  | refine Go.dB' ?_
  | refine Go.neg ?_
  | refine Go.neg' ?_
  | refine Go.abs' ?_
  | refine Go.lenT ?_
  | refine Go.lenL ?_
  | refine Go.max' ?_
  | refine Go.min' ?_
  | refine Go.intI ?_
  | refine Go.intB ?_
  | refine Go.tupL ?_
  | refine Go.tupT ?_
  | refine Go.isi ?_
  | refine Go.call ?_
  | refine Go.iVal' ?_
  | refine Go.iValT ?_
  | refine Go.iValL ?_
  | refine Go.r1 ?_
  | refine Go.r2 ?_
  | refine Go.star ?_
  | refine Go.l_cons ?_
  | refine Go.l_nil ?_
  | refine Go.enum' ?_
  | refine Go.rev' ?_
  | refine Go.zip' ?_
  | refine Go.wipe_nil ?_
  | refine Go.wipe_cons ?_
  | refine Go.iadd ?_
  | refine Go.sl ?_
  | refine Go.oN ?_
  | refine Go.oS ?_
  | refine Go.osK' ?_
  | refine Go.getL ?_
  | refine Go.lc ?_
  | refine Go.lcR ?_
  | refine Go.lg_nil ?_
  | refine Go.lg_cons ?_
  | refine Go.yes ?_
  | refine Go.for_nil ?_
  | refine Go.for_cons ?_
  | refine Go.revT ?_
  | refine Go.revL ?_
  | refine Go.zipT ?_
  | refine Go.zipL ?_
  | refine Go.tupK' rfl ?_
  | refine Go.lstK' rfl ?_
  | refine Go.callK' rfl rfl ?_
  | refine Go.lcL rfl ?_
  | refine Go.getLL' rfl ?_
  | refine Go.addT rfl ?_
  | (refine Go.gAsg ?_; first | refine Go.set0 ?_ | refine Go.set1 ?_ | refine Go.set2 ?_ | refine Go.set3 ?_ | refine Go.set4 ?_ | refine Go.set5 ?_ | refine Go.set6 ?_ | refine Go.set7 ?_ | refine Go.set8 ?_ | refine Go.set9 ?_ | refine Go.set10 ?_ | refine Go.set11 ?_ | refine Go.set12 ?_ | refine Go.set13 ?_ | refine Go.set14 ?_ | refine Go.set15 ?_ | refine Go.set16 ?_ | refine Go.set17 ?_ | refine Go.set18 ?_ | refine Go.set19 ?_ | refine Go.set20 ?_ | refine Go.set21 ?_ | refine Go.set22 ?_ | refine Go.set23 ?_ | refine Go.tp_cons ?_ | refine Go.tp_nil ?_)
  | (refine Go.gIxT ?_; first | refine Go.ixT0 ?_ | refine Go.ixT1 ?_ | refine Go.ixT2 ?_ | refine Go.ixT3 ?_ | refine Go.ixT4 ?_ | refine Go.ixT5 ?_ | refine Go.ixT6 ?_ | refine Go.ixT7 ?_)
  | (refine Go.gIxL ?_; first | refine Go.ixL0 ?_ | refine Go.ixL1 ?_ | refine Go.ixL2 ?_ | refine Go.ixL3 ?_ | refine Go.ixL4 ?_ | refine Go.ixL5 ?_ | refine Go.ixL6 ?_ | refine Go.ixL7 ?_)
  | (refine Go.gAug ?_; first | refine Go.aug0 ?_ | refine Go.aug1 ?_ | refine Go.aug2 ?_ | refine Go.aug3 ?_ | refine Go.aug4 ?_ | refine Go.aug5 ?_ | refine Go.aug6 ?_ | refine Go.aug7 ?_ | refine Go.aug8 ?_ | refine Go.aug9 ?_ | refine Go.aug10 ?_ | refine Go.aug11 ?_ | refine Go.aug12 ?_ | refine Go.aug13 ?_ | refine Go.aug14 ?_ | refine Go.aug15 ?_ | refine Go.aug16 ?_ | refine Go.aug17 ?_ | refine Go.aug18 ?_ | refine Go.aug19 ?_ | refine Go.aug20 ?_ | refine Go.aug21 ?_ | refine Go.aug22 ?_ | refine Go.aug23 ?_)
  | (refine Go.gStar ?_; first | refine Go.startup0 ?_ | refine Go.starlst0 ?_ | refine Go.startup1 ?_ | refine Go.starlst1 ?_ | refine Go.startup2 ?_ | refine Go.starlst2 ?_ | refine Go.startup3 ?_ | refine Go.starlst3 ?_ | refine Go.startup4 ?_ | refine Go.starlst4 ?_ | refine Go.startup_2 ?_ | refine Go.starlst_2 ?_ | refine Go.startup_3 ?_ | refine Go.starlst_3 ?_ | refine Go.startup_4 ?_ | refine Go.starlst_4 ?_)
  | refine Go.slfT1 ?_ | refine Go.sltT1 ?_ | refine Go.slfL1 ?_ | refine Go.sltL1 ?_ | refine Go.slfT2 ?_ | refine Go.sltT2 ?_ | refine Go.slfL2 ?_ | refine Go.sltL2 ?_ | refine Go.slfT3 ?_ | refine Go.sltT3 ?_ | refine Go.slfL3 ?_ | refine Go.sltL3 ?_ | refine Go.slfT4 ?_ | refine Go.sltT4 ?_ | refine Go.slfL4 ?_ | refine Go.sltL4 ?_
  | (refine Go.gUns ?_; first | refine Go.uns0 ?_ | refine Go.uns1 ?_ | refine Go.uns2 ?_ | refine Go.uns3 ?_ | refine Go.uns4 ?_ | refine Go.uns5 ?_ | refine Go.uns6 ?_ | refine Go.uns7 ?_ | refine Go.uns8 ?_ | refine Go.uns9 ?_ | refine Go.uns10 ?_ | refine Go.uns11 ?_ | refine Go.uns12 ?_ | refine Go.uns13 ?_ | refine Go.uns14 ?_ | refine Go.uns15 ?_ | refine Go.uns16 ?_ | refine Go.uns17 ?_ | refine Go.uns18 ?_ | refine Go.uns19 ?_ | refine Go.uns20 ?_ | refine Go.uns21 ?_ | refine Go.uns22 ?_ | refine Go.uns23 ?_)
  | refine Go.entup0 ?_ | refine Go.enlst0 ?_ | refine Go.entup1 ?_ | refine Go.enlst1 ?_ | refine Go.entup2 ?_ | refine Go.enlst2 ?_ | refine Go.entup3 ?_ | refine Go.enlst3 ?_ | refine Go.entup4 ?_ | refine Go.enlst4 ?_ | refine Go.entup5 ?_ | refine Go.enlst5 ?_ | refine Go.entup6 ?_ | refine Go.enlst6 ?_)))
local macro_rules | `(tactic| walk_at "bl1") => `(tactic| first | ((with_reducible refine Go.gEqS ?_); (first | refine Go.eqS (b := true) ⟨rfl, by decide +kernel⟩ ⟨rfl, by decide +kernel⟩ rfl ?_ | refine Go.eqS (b := false) ⟨rfl, by decide +kernel⟩ ⟨rfl, by decide +kernel⟩ rfl ?_)) | ((with_reducible refine Go.gNeS ?_); (first | refine Go.neS (b := true) ⟨rfl, by decide +kernel⟩ ⟨rfl, by decide +kernel⟩ rfl ?_ | refine Go.neS (b := false) ⟨rfl, by decide +kernel⟩ ⟨rfl, by decide +kernel⟩ rfl ?_)) | walk_at "bl0" | ((with_reducible refine Go.gAll ?_); (refine Go.allB (by rfl) ?_)) | ((with_reducible refine Go.gIxT ?_); (refine Go.ixT (by rfl) ?_)) | ((with_reducible refine Go.gIxL ?_); (refine Go.ixL (by rfl) ?_)))
local macro_rules | `(tactic| walk_at "bl") => `(tactic| (repeat walk_at "bl1"))
/-! ### what the laws reckon by -/
theorem rooted_spec {n : Int} {m : Nat} {S : Sto} {Q : DK} {E : EK} (h0 : 0 ≤ n) (hs : sm m n) (hm : m ≤ 17000) (k : Q (.int (isq n.toNat)) S) : m_l_rooted [.int n] S Q E := whole_root_spec (m := m) h0 hs hm k
theorem lroot_spec {b : Int} {q : Rat} {n : Nat} {S : Sto} {Q : DK} {E : EK} (hb : sm n b) (hq : sr n q) (hq0 : 0 ≤ q) (hn : n ≤ 900) (k : Q (rt (canon (b : Rat) 1 q)) S) : m_l_root [.int b, fr q] S Q E := by
  refine e_l_root ?_
  unfold t_l_root
  have hn0 : 0 ≤ q.num := Rat.num_nonneg.mpr hq0
  have hd0 := den_pos q
  walk_at "bl"
  refine rooted_spec hn0 hq.n (by omega) ?_
  walk_at "bl"
  refine rooted_spec (by omega) hq.d (by omega) ?_
  rw [Int.toNat_natCast]
  have r1 := isq_sm hn0 hq.n
  have r2 := isq_sm (n := (q.den : Int)) (by omega) hq.d
  rw [Int.toNat_natCast] at r2
  have rd := isq_den q
  walk_at "bl"
  refine Go.mul (r1.cmul r1 (by omega)) ?_
  walk_at "bl"
  have done : sqb q → Q (rt ⟨(b : Rat) + sqr q, 0, 0⟩) S := fun h => by
    unfold canon at k
    by_cases z : q = 0
    · rw [if_pos (.inr z)] at k
      have : sqr q = 0 := sqr_of (t := 0) (by rw [z, Rat.mul_zero]) Rat.le_refl
      rw [this, Rat.add_zero]
      exact k
    · rw [if_neg (fun y => y.elim (by decide) z), if_pos h] at k
      have e : (b : Rat) + ((1 : Int) : Rat) * sqr q = (b : Rat) + sqr q := by
        rw [show ((1 : Int) : Rat) = 1 from rfl, Rat.one_mul]
      rw [e] at k
      exact k
  have none : ¬ sqb q → Q (rt ⟨(b : Rat), 1, q⟩) S := fun h => by
    unfold canon at k
    have z : q ≠ 0 := fun z => h (sqb_of (t := 0) (by rw [z, Rat.mul_zero]))
    rw [if_neg (fun y => y.elim (by decide) z), if_neg h] at k
    exact k
  refine Go.ifD (fun h1 => ?_) fun h1 => ?_
  · walk_at "bl"
    refine Go.mul (r2.cmul r2 (by omega)) ?_
    walk_at "bl"
    refine Go.ifD (fun h2 => ?_) fun h2 => ?_
    · walk_at "bl"
      refine Go.mul (hb.cmul r2 (by omega)) ?_
      walk_at "bl"
      refine low_spec (n := n + n + 1) (r := (b : Rat) + sqr q) (by omega) (((hb.mul r2).add (r1.mono (by omega)))) (r2.mono (by omega)) (by omega) ?_ ?_
      · unfold sqr
        rw [Rat.intCast_add, Rat.intCast_mul]
        have := Rat.div_mul_cancel (a := ((isq q.num.toNat : Int) : Rat)) (castne rd)
        grind
      walk_at "bl"
      exact done ⟨h1, h2⟩
    · walk_at "bl"
      exact none (fun z => h2 z.2)
  · walk_at "bl"
    exact none (fun z => h1 z.1)
/-- the square of how far a place is from a straight piece -/
def byR (p q : P2) (P : R2) : Rat :=
  let w := dif q p
  let t := dotR (difR P p) w
  if t ≤ 0 then nrm (difR P p) else if (dot w w : Rat) ≤ t then nrm (difR P q) else crsR (difR P p) w * crsR (difR P p) w / (dot w w : Int)
end Ld

namespace Ld
open PySem PySem.Spec PyProof.Rows L2 Bl Lb
local macro_rules | `(tactic| walk_at "bl0") => `(tactic| (with_reducible (first
  | (refine Go.gVr ?_; first | refine Go.vr0 ?_ | refine Go.vr1 ?_ | refine Go.vr2 ?_ | refine Go.vr3 ?_ | refine Go.vr4 ?_ | refine Go.vr5 ?_ | refine Go.vr6 ?_ | refine Go.vr7 ?_ | refine Go.vr8 ?_ | refine Go.vr9 ?_ | refine Go.vr10 ?_ | refine Go.vr11 ?_ | refine Go.vr12 ?_ | refine Go.vr13 ?_ | refine Go.vr14 ?_ | refine Go.vr15 ?_ | refine Go.vr16 ?_ | refine Go.vr17 ?_ | refine Go.vr18 ?_ | refine Go.vr19 ?_ | refine Go.vr20 ?_ | refine Go.vr21 ?_ | refine Go.vr22 ?_ | refine Go.vr23 ?_)
  | refine Go.seq ?_
  | refine Go.nx' ?_
  | refine Go.ret ?_
  | refine Go.if' ?_
  | refine Go.asg ?_
  | refine Go.par ?_
  | refine Go.drop ?_
  | refine Go.brk ?_
  | refine Go.cnt ?_
  | refine Go.raise ?_
  | refine Go.thru ?_
  | refine Go.tryAs ?_
  | refine Go.for' ?_
  | refine Go.sub ?_
  | refine Go.retN ?_
  | refine Go.par_cons ?_
  | refine Go.par_nil ?_
  | refine Go.cn' ?_
  | refine Go.two ?_
  | refine Go.nil ?_
  | refine Go.cons ?_
  | refine Go.tup ?_
  | refine Go.lst ?_
  | refine Go.lstR ?_
  | refine Go.tbl' ?_
  | refine Go.tblK' ?_
  | refine Go.ttr' ?_
  | refine Go.truB ?_
  | refine Go.truI ?_
  | refine Go.truN ?_
  | refine Go.and' ?_
  | refine Go.or' ?_
  | refine Go.not' ?_
  | refine Go.vOf' ?_
  | refine Go.vNot' ?_
  | refine Go.eIf' ?_
  | refine Go.ifT ?_
  | refine Go.ifF ?_
  | refine Go.ifN ?_
  | refine Go.add ?_
  | refine Go.sub' ?_
  | refine Go.lt ?_
  | refine Go.le ?_
  | refine Go.gt ?_
  | refine Go.ge ?_
  | refine Go.eqI ?_
  | refine Go.neI ?_
  | refine Go.is' ?_
  | refine Go.isNot' ?_
  | refine Go.chain ?_
  | refine Go.dB' ?_
  | refine Go.neg ?_
  | refine Go.neg' ?_
  | refine Go.abs' ?_
  | refine Go.lenT ?_
  | refine Go.lenL ?_
  | refine Go.max' ?_
  | refine Go.min' ?_
  | refine Go.intI ?_
  | refine Go.intB ?_
  | refine Go.tupL ?_
  | refine Go.tupT ?_
  | refine Go.isi ?_
  | refine Go.call ?_
  | refine Go.iVal' ?_
  | refine Go.iValT ?_
  | refine Go.iValL ?_
  | refine Go.r1 ?_
  | refine Go.r2 ?_
  | refine Go.star ?_
  | refine Go.l_cons ?_
  | refine Go.l_nil ?_
  | refine Go.enum' ?_
  | refine Go.rev' ?_
  | refine Go.zip' ?_
  | refine Go.wipe_nil ?_
  | refine Go.wipe_cons ?_
  | refine Go.iadd ?_
  | refine Go.sl ?_
  | refine Go.oN ?_
  | refine Go.oS ?_
  | refine Go.osK' ?_
  | refine Go.getL ?_
  | refine Go.lc ?_
  | refine Go.lcR ?_
  | refine Go.lg_nil ?_
  | refine Go.lg_cons ?_
  | refine Go.yes ?_
  | refine Go.for_nil ?_
  | refine Go.for_cons ?_
  | refine Go.revT ?_
  | refine Go.revL ?_
  | refine Go.zipT ?_
  | refine Go.zipL ?_
  | refine Go.tupK' rfl ?_
  | refine Go.lstK' rfl ?_
  | refine Go.callK' rfl rfl ?_
  | refine Go.lcL rfl ?_
  | refine Go.getLL' rfl ?_
  | refine Go.addT rfl ?_
  | (refine Go.gAsg ?_; first | refine Go.set0 ?_ | refine Go.set1 ?_ | refine Go.set2 ?_ | refine Go.set3 ?_ | refine Go.set4 ?_ | refine Go.set5 ?_ | refine Go.set6 ?_ | refine Go.set7 ?_ | refine Go.set8 ?_ | refine Go.set9 ?_ | refine Go.set10 ?_ | refine Go.set11 ?_ | refine Go.set12 ?_ | refine Go.set13 ?_ | refine Go.set14 ?_ | refine Go.set15 ?_ | refine Go.set16 ?_ | refine Go.set17 ?_ | refine Go.set18 ?_ | refine Go.set19 ?_ | refine Go.set20 ?_ | refine Go.set21 ?_ | refine Go.set22 ?_ | refine Go.set23 ?_ | refine Go.tp_cons ?_ | refine Go.tp_nil ?_)
  | (refine Go.gIxT ?_; first | refine Go.ixT0 ?_ | refine Go.ixT1 ?_ | refine Go.ixT2 ?_ | refine Go.ixT3 ?_ | refine Go.ixT4 ?_ | refine Go.ixT5 ?_ | refine Go.ixT6 ?_ | refine Go.ixT7 ?_)
  | (refine Go.gIxL ?_; first | refine Go.ixL0 ?_ | refine Go.ixL1 ?_ | refine Go.ixL2 ?_ | refine Go.ixL3 ?_ | refine Go.ixL4 ?_ | refine Go.ixL5 ?_ | refine Go.ixL6 ?_ | refine Go.ixL7 ?_)
  | (refine Go.gAug ?_; first | refine Go.aug0 ?_ | refine Go.aug1 ?_ | refine Go.aug2 ?_ | refine Go.aug3 ?_ | refine Go.aug4 ?_ | refine Go.aug5 ?_ | refine Go.aug6 ?_ | refine Go.aug7 ?_ | refine Go.aug8 ?_ | refine Go.aug9 ?_ | refine Go.aug10 ?_ | refine Go.aug11 ?_ | refine Go.aug12 ?_ | refine Go.aug13 ?_ | refine Go.aug14 ?_ | refine Go.aug15 ?_ | refine Go.aug16 ?_ | refine Go.aug17 ?_ | refine Go.aug18 ?_ | refine Go.aug19 ?_ | refine Go.aug20 ?_ | refine Go.aug21 ?_ | refine Go.aug22 ?_ | refine Go.aug23 ?_)
  | (refine Go.gStar ?_; first | refine Go.startup0 ?_ | refine Go.starlst0 ?_ | refine Go.startup1 ?_ | refine Go.starlst1 ?_ | refine Go.startup2 ?_ | refine Go.starlst2 ?_ | refine Go.startup3 ?_ | refine Go.starlst3 ?_ | refine Go.startup4 ?_ | refine Go.starlst4 ?_ | refine Go.startup_2 ?_ | refine Go.starlst_2 ?_ | refine Go.startup_3 ?_ | refine Go.starlst_3 ?_ | refine Go.startup_4 ?_ | refine Go.starlst_4 ?_)
  | refine Go.slfT1 ?_ | refine Go.sltT1 ?_ | refine Go.slfL1 ?_ | refine Go.sltL1 ?_ | refine Go.slfT2 ?_ | refine Go.sltT2 ?_ | refine Go.slfL2 ?_ | refine Go.sltL2 ?_ | refine Go.slfT3 ?_ | refine Go.sltT3 ?_ | refine Go.slfL3 ?_ | refine Go.sltL3 ?_ | refine Go.slfT4 ?_ | refine Go.sltT4 ?_ | refine Go.slfL4 ?_ | refine Go.sltL4 ?_
  | (refine Go.gUns ?_; first | refine Go.uns0 ?_ | refine Go.uns1 ?_ | refine Go.uns2 ?_ | refine Go.uns3 ?_ | refine Go.uns4 ?_ | refine Go.uns5 ?_ | refine Go.uns6 ?_ | refine Go.uns7 ?_ | refine Go.uns8 ?_ | refine Go.uns9 ?_ | refine Go.uns10 ?_ | refine Go.uns11 ?_ | refine Go.uns12 ?_ | refine Go.uns13 ?_ | refine Go.uns14 ?_ | refine Go.uns15 ?_ | refine Go.uns16 ?_ | refine Go.uns17 ?_ | refine Go.uns18 ?_ | refine Go.uns19 ?_ | refine Go.uns20 ?_ | refine Go.uns21 ?_ | refine Go.uns22 ?_ | refine Go.uns23 ?_)
  | refine Go.entup0 ?_ | refine Go.enlst0 ?_ | refine Go.entup1 ?_ | refine Go.enlst1 ?_ | refine Go.entup2 ?_ | refine Go.enlst2 ?_ | refine Go.entup3 ?_ | refine Go.enlst3 ?_ | refine Go.entup4 ?_ | refine Go.enlst4 ?_ | refine Go.entup5 ?_ | refine Go.enlst5 ?_ | refine Go.entup6 ?_ | refine Go.enlst6 ?_)))
local macro_rules | `(tactic| walk_at "bl1") => `(tactic| first | ((with_reducible refine Go.gEqS ?_); (first | refine Go.eqS (b := true) ⟨rfl, by decide +kernel⟩ ⟨rfl, by decide +kernel⟩ rfl ?_ | refine Go.eqS (b := false) ⟨rfl, by decide +kernel⟩ ⟨rfl, by decide +kernel⟩ rfl ?_)) | ((with_reducible refine Go.gNeS ?_); (first | refine Go.neS (b := true) ⟨rfl, by decide +kernel⟩ ⟨rfl, by decide +kernel⟩ rfl ?_ | refine Go.neS (b := false) ⟨rfl, by decide +kernel⟩ ⟨rfl, by decide +kernel⟩ rfl ?_)) | walk_at "bl0" | ((with_reducible refine Go.gAll ?_); (refine Go.allB (by rfl) ?_)) | ((with_reducible refine Go.gIxT ?_); (refine Go.ixT (by rfl) ?_)) | ((with_reducible refine Go.gIxL ?_); (refine Go.ixL (by rfl) ?_)))
local macro_rules | `(tactic| walk_at "bl") => `(tactic| (repeat walk_at "bl1"))
/-! ### things and places that the laws draw -/
theorem addL {ds es : List D} {S : Sto} {Q : DK} (h : Nat.ble (ds ++ es).length 1000 = true) (k : Q (.lst (ds ++ es)) S) : fCat (.lst ds) (.lst es) S Q := ⟨by have := Nat.le_of_ble_eq_true h; rw [List.length_append] at this; exact Nat.le_trans this (by decide), k⟩
theorem appG {ta : TAd} {env : Ev} {S : Sto} {Q : DK} {E : EK} {r : Addr} {i : Nat} {xs : List D} (e : env[i]? = some (some (.ref r))) (h : S r = some xs) (k : ta env S (fun ds S2 => gApp r ds S2 Q) E) : dLm gApp (vr i) ta env S Q E := by
  unfold dLm
  refine vr_go e ?_
  exact ⟨by rw [h]; rfl, k⟩
theorem appK {r : Addr} {d : D} {xs : List D} {S : Sto} {Q : DK} (h : S r = some xs) (hl : Nat.ble xs.length 1000 = true) (k : Q .non (sup S r (xs ++ [d]))) : gApp r [d] S Q := by
  unfold gApp
  dsimp only
  rw [h]
  exact ⟨Nat.lt_of_le_of_lt (Nat.le_of_ble_eq_true hl) (by decide), k⟩
theorem lstG {ds : List D} {S : Sto} {Q : DK} (k : Q (.lst ds) S) : bLst [.tup ds] S Q := k
theorem longs {d : Int} (h0 : 0 ≤ d) (h1 : d < 8) : ∃ x y r : Int, (x * x + y * y = r * r ∧ 0 ≤ x ∧ x ≤ 15 ∧ 0 ≤ y ∧ y ≤ 15 ∧ 0 < r) ∧ atI [pt (1, 0), pt (2, 0), pt (3, 4), pt (4, 3), pt (5, 12), pt (12, 5), pt (8, 15), pt (9, 0)] d = some (pt (x, y)) := by
  rcases (by omega : d = (0 : Nat) ∨ d = (1 : Nat) ∨ d = (2 : Nat) ∨ d = (3 : Nat) ∨ d = (4 : Nat) ∨ d = (5 : Nat) ∨ d = (6 : Nat) ∨ d = (7 : Nat)) with h | h | h | h | h | h | h | h <;> subst h
  · exact ⟨1, 0, 1, by decide, atI_nat rfl⟩
  · exact ⟨2, 0, 2, by decide, atI_nat rfl⟩
  · exact ⟨3, 4, 5, by decide, atI_nat rfl⟩
  · exact ⟨4, 3, 5, by decide, atI_nat rfl⟩
  · exact ⟨5, 12, 13, by decide, atI_nat rfl⟩
  · exact ⟨12, 5, 13, by decide, atI_nat rfl⟩
  · exact ⟨8, 15, 17, by decide, atI_nat rfl⟩
  · exact ⟨9, 0, 9, by decide, atI_nat rfl⟩
structure Arc (u v : P2) (r d : Int) : Prop where
  e1 : dot u u = r * r
  e2 : dot v v = r * r
  e3 : dot u u - 2 * dot u v + dot v v = d * d
  r0 : 0 ≤ r
  d0 : 0 < d
  tn : 0 ≤ crs u v
  u1 : PIn 25 u
  v1 : PIn 25 v
instance (u v : P2) (r d : Int) : Decidable (Arc u v r d) :=
  decidable_of_iff (dot u u = r * r ∧ dot v v = r * r ∧ dot u u - 2 * dot u v + dot v v = d * d ∧ 0 ≤ r ∧ 0 < d ∧ 0 ≤ crs u v ∧ (u.1.natAbs ≤ 25 ∧ u.2.natAbs ≤ 25) ∧ (v.1.natAbs ≤ 25 ∧ v.2.natAbs ≤ 25))
    ⟨fun ⟨a, b, c, d, e, f, g, h⟩ => ⟨a, b, c, d, e, f, g, h⟩, fun ⟨a, b, c, d, e, f, g, h⟩ => ⟨a, b, c, d, e, f, g, h⟩⟩
abbrev pp (u v : P2) : D := .tup [pt u, pt v]
theorem arcs {d : Int} (h0 : 0 ≤ d) (h1 : d < 9) : ∃ (u v : P2) (r c : Int), Arc u v r c ∧ atI [pp (1, 0) (-1, 0), pp (3, 4) (-3, 4), pp (4, 3) (-4, 3), pp (5, 12) (-5, 12), pp (12, 5) (-12, 5), pp (25, 0) (7, 24), pp (25, 0) (-7, 24), pp (3, 4) (-3, -4), pp (24, 7) (-24, 7)] d = some (pp u v) := by
  rcases (by omega : d = (0 : Nat) ∨ d = (1 : Nat) ∨ d = (2 : Nat) ∨ d = (3 : Nat) ∨ d = (4 : Nat) ∨ d = (5 : Nat) ∨ d = (6 : Nat) ∨ d = (7 : Nat) ∨ d = (8 : Nat)) with h | h | h | h | h | h | h | h | h <;> subst h
  · exact ⟨(1, 0), (-1, 0), 1, 2, by decide, atI_nat rfl⟩
  · exact ⟨(3, 4), (-3, 4), 5, 6, by decide, atI_nat rfl⟩
  · exact ⟨(4, 3), (-4, 3), 5, 8, by decide, atI_nat rfl⟩
  · exact ⟨(5, 12), (-5, 12), 13, 10, by decide, atI_nat rfl⟩
  · exact ⟨(12, 5), (-12, 5), 13, 24, by decide, atI_nat rfl⟩
  · exact ⟨(25, 0), (7, 24), 25, 30, by decide, atI_nat rfl⟩
  · exact ⟨(25, 0), (-7, 24), 25, 40, by decide, atI_nat rfl⟩
  · exact ⟨(3, 4), (-3, -4), 5, 10, by decide, atI_nat rfl⟩
  · exact ⟨(24, 7), (-24, 7), 25, 48, by decide, atI_nat rfl⟩
def WayOk (way : Int) : Th → Prop
  | .spot _ => way < 2
  | .cord _ _ => ¬ way < 2 ∧ way < 5
  | .bow _ _ _ => ¬ way < 5
theorem smul_sm {s x : Int} (hs0 : 0 < s) (hs3 : s ≤ 3) {m : Nat} (h : x.natAbs ≤ m) : (x * s).natAbs ≤ m * 3 := by
  rw [Int.natAbs_mul]
  exact Nat.mul_le_mul h (by omega)
theorem thing_spec {a : Addr} {wide way : Int} {S : Sto} {Q : DK} {E : EK} (hb : Bg S a) (hm0 : 0 < wide) (hm1 : wide ≤ 900) (k : ∀ t S', GoodTh t → TIn (wide.toNat + 75) t → WayOk way t → Bg S' a → Q (thD t) S') : m_l_thing [.ref a, .int wide, .int way] S Q E := by
  refine e_l_thing ?_
  unfold t_l_thing
  have sw : sm 10 wide := by unfold sm; omega
  walk_at "bl"
  refine take_spec hb (by omega) (sm_k (by decide)) fun sz S1 s0 s1 b1 _ => ?_
  walk_at "bl"
  refine take_spec b1 (by omega) (sm_k (by decide)) fun qr S2 q0 q1 b2 _ => ?_
  obtain ⟨n, rfl⟩ : ∃ n : Nat, qr = n := ⟨qr.toNat, by omega⟩
  walk_at "bl"
  refine Go.mul ((sm.of (n := 2) (by decide)).cmul sw (by decide)) ?_
  walk_at "bl"
  refine take_spec b2 (by omega) ((show sm 12 _ by unfold sm; omega).mono (by decide)) fun x0 S3 x1 x2 b3 _ => ?_
  walk_at "bl"
  refine Go.mul ((sm.of (n := 2) (by decide)).cmul sw (by decide)) ?_
  walk_at "bl"
  refine take_spec b3 (by omega) ((show sm 12 _ by unfold sm; omega).mono (by decide)) fun y0 S4 y1 y2 b4 _ => ?_
  generalize hat : (x0 - wide, y0 - wide) = at'
  have pb : PIn wide.toNat at' := by rw [← hat]; exact ⟨by show (x0 - wide).natAbs ≤ _; omega, by show (y0 - wide).natAbs ≤ _; omega⟩
  have pb' : PIn (wide.toNat + 75) at' := ⟨Nat.le_trans pb.1 (by omega), Nat.le_trans pb.2 (by omega)⟩
  have hbase : Bd at' := pb.bd (by omega)
  have ex : x0 - wide = at'.1 := by rw [← hat]
  have ey : y0 - wide = at'.2 := by rw [← hat]
  walk_at "bl"
  rw [ex, ey]
  generalize hs : 1 + sz = s at *
  have hs0 : 0 < s := by omega
  have hs3 : s ≤ 3 := by omega
  have ss : sm 4 s := by unfold sm; omega
  refine addL rfl ?_
  walk_at "bl"
  refine Go.ifD (fun hk => ?_) fun hk => ?_
  · walk_at "bl"
    exact k (.spot at') S4 hbase pb' hk b4
  walk_at "bl"
  refine take_spec b4 (by omega) (sm_k (by decide)) fun d S5 d0 d1 b5 _ => ?_
  obtain ⟨x, y, r, ⟨he, hx, hx1, hy, hy1, hr⟩, ed⟩ := longs d0 d1
  refine Go.ixL ed ?_
  have far_in : ∀ u : P2, PIn 25 u → PIn (wide.toNat + 75) (plus2 at' (rot n (u.1 * s, u.2 * s))) := fun u hu =>
    plus_in pb (rot_bd (u := (u.1 * s, u.2 * s)) (m := 75) (smul_sm hs0 hs3 hu.1) (smul_sm hs0 hs3 hu.2) n)
  walk_at "bl"
  by_cases hw : way < 5
  · rw [decide_eq_false (show ¬ 4 < way by omega)]
    refine Go.ifBF rfl ?_
    walk_at "bl"
    refine Go.lstRK' rfl fun c hc => ?_
    have b6 : ∀ ds : List D, Bg (sup S5 c ds) a := fun ds => by
      obtain ⟨c1, m1, e, z⟩ := b5
      refine ⟨c1, m1, ?_, z⟩
      rw [sup_ne (fun z => by rw [z, hc] at e; cases e)]
      exact e
    walk_at "bl"
    refine Go.mul ((show sm 5 x by unfold sm; omega).cmul ss (by decide)) ?_
    walk_at "bl"
    refine Go.mul ((show sm 5 y by unfold sm; omega).cmul ss (by decide)) ?_
    walk_at "bl"
    refine turned_spec (p := (x * s, y * s)) (by omega) ?_
    walk_at "bl"
    refine appG rfl sup_same ?_
    walk_at "bl"
    refine appK sup_same rfl ?_
    walk_at "bl"
    refine Go.ifD (fun _ => ?_) fun z => absurd hw z
    walk_at "bl"
    refine Go.ixR sup_same atI_0 ?_
    walk_at "bl"
    have hb2 := far_in (x, y) ⟨by show x.natAbs ≤ 25; omega, by show y.natAbs ≤ 25; omega⟩
    have hu : dot (x * s, y * s) (x * s, y * s) = (r * s) * (r * s) := by
      unfold dot
      dsimp only
      grind
    have er : 0 < r * s := Int.mul_pos hr hs0
    have bg : Bg (sup (sup S5 c []) c [pt (plus2 at' (rot n (x * s, y * s)))]) a := by
      obtain ⟨c1, m1, e, z⟩ := b5
      refine ⟨c1, m1, ?_, z⟩
      have ne : a ≠ c := fun z => by rw [z, hc] at e; cases e
      rw [sup_ne ne, sup_ne ne]
      exact e
    refine k (.cord at' (plus2 at' (rot n (x * s, y * s)))) _ ⟨hbase, hb2.bd (by omega), fun z => ?_, ⟨r * s, by omega, by rw [far_plus0, rot_dot, hu]⟩⟩ ⟨pb', hb2⟩ ⟨hk, hw⟩ bg
    have e := far_plus0 at' (rot n (x * s, y * s))
    rw [rot_dot, hu, ← z, far_self] at e
    have := Int.mul_pos er er
    omega
  · rw [decide_eq_true (show 4 < way by omega)]
    refine Go.ifBT rfl ?_
    walk_at "bl"
    refine take_spec b5 (by omega) (sm_k (by decide)) fun d' S6 d0' d1' b6 _ => ?_
    obtain ⟨u, v, R, C, ar, ed'⟩ := arcs d0' d1'
    refine Go.ixL ed' ?_
    walk_at "bl"
    refine lstG ?_
    walk_at "bl"
    refine Go.lstRK' rfl fun c hc => ?_
    have uin := ar.u1
    have vin := ar.v1
    have s5 : ∀ {i : Int}, i.natAbs ≤ 25 → sm 5 i := fun h => by unfold sm; omega
    walk_at "bl"
    refine Go.mul ((s5 uin.1).cmul ss (by decide)) ?_
    walk_at "bl"
    refine Go.mul ((s5 uin.2).cmul ss (by decide)) ?_
    walk_at "bl"
    refine turned_spec (p := (u.1 * s, u.2 * s)) (by omega) ?_
    walk_at "bl"
    refine appG rfl sup_same ?_
    walk_at "bl"
    refine appK sup_same rfl ?_
    walk_at "bl"
    refine Go.mul ((s5 vin.1).cmul ss (by decide)) ?_
    walk_at "bl"
    refine Go.mul ((s5 vin.2).cmul ss (by decide)) ?_
    walk_at "bl"
    refine turned_spec (p := (v.1 * s, v.2 * s)) (by omega) ?_
    walk_at "bl"
    refine appG rfl sup_same ?_
    walk_at "bl"
    refine appK sup_same rfl ?_
    walk_at "bl"
    refine Go.ifD (fun z => absurd z hw) fun _ => ?_
    walk_at "bl"
    refine Go.ixR sup_same atI_0 ?_
    walk_at "bl"
    refine Go.ixR sup_same atI_1 ?_
    walk_at "bl"
    have hb2 := far_in u uin
    have hb3 := far_in v vin
    have bg : ∀ l1 l2 l3, Bg (sup (sup (sup S6 c l1) c l2) c l3) a := fun l1 l2 l3 => by
      obtain ⟨c1, m1, e, z⟩ := b6
      refine ⟨c1, m1, ?_, z⟩
      have ne : a ≠ c := fun z => by rw [z, hc] at e; cases e
      rw [sup_ne ne, sup_ne ne, sup_ne ne]
      exact e
    have e1 : dot (u.1 * s, u.2 * s) (u.1 * s, u.2 * s) = (R * s) * (R * s) := by
      have := ar.e1
      unfold dot at *
      dsimp only
      grind
    have e2 : dot (v.1 * s, v.2 * s) (v.1 * s, v.2 * s) = (R * s) * (R * s) := by
      have := ar.e2
      unfold dot at *
      dsimp only
      grind
    have e3 : dot (u.1 * s, u.2 * s) (u.1 * s, u.2 * s) - 2 * dot (u.1 * s, u.2 * s) (v.1 * s, v.2 * s) + dot (v.1 * s, v.2 * s) (v.1 * s, v.2 * s) = (C * s) * (C * s) := by
      have := ar.e3
      unfold dot at *
      dsimp only
      grind
    have e4 : 0 ≤ crs (u.1 * s, u.2 * s) (v.1 * s, v.2 * s) := by
      have h := Int.mul_nonneg ar.tn (Int.mul_nonneg (show 0 ≤ s by omega) (show 0 ≤ s by omega))
      have : crs (u.1 * s, u.2 * s) (v.1 * s, v.2 * s) = crs u v * (s * s) := by
        unfold crs
        dsimp only
        grind
      omega
    exact k (.bow at' (plus2 at' (rot n (u.1 * s, u.2 * s))) (plus2 at' (rot n (v.1 * s, v.2 * s)))) _ ⟨hbase, hb2.bd (by omega), hb3.bd (by omega), .mk' e1 e2 (Int.mul_nonneg ar.r0 (by omega)) e3 (Int.mul_pos ar.d0 hs0) e4⟩ ⟨pb', hb2, hb3⟩ hw (bg _ _ _)
def ptsL : Th → List P2
  | .spot p => [p]
  | .cord p q => [p, q]
  | .bow c p q => [c, p, q]
theorem pts_in {t : Th} {m : Nat} (h : TIn m t) : ∀ p ∈ ptsL t, PIn m p := by
  intro p hp
  cases t with
  | spot a =>
    rw [List.mem_singleton.mp hp]
    exact h
  | cord a b =>
    rcases List.mem_cons.mp hp with rfl | hp
    · exact h.1
    rw [List.mem_singleton.mp hp]
    exact h.2
  | bow c a b =>
    rcases List.mem_cons.mp hp with rfl | hp
    · exact h.1
    rcases List.mem_cons.mp hp with rfl | hp
    · exact h.2.1
    rw [List.mem_singleton.mp hp]
    exact h.2.2
theorem thD_pts (t : Th) : ∃ w : Str, thD t = .tup (.str w :: (ptsL t).map pt) := by
  cases t <;> exact ⟨_, rfl⟩
theorem at_pts {ps : List P2} {d : Int} (h0 : 0 ≤ d) (h1 : d < ps.length) : ∃ p ∈ ps, atI (ps.map pt) d = some (pt p) := by
  obtain ⟨j, rfl⟩ := Int.eq_ofNat_of_zero_le h0
  have hj : j < ps.length := by omega
  exact ⟨ps[j], List.getElem_mem hj, atI_nat (by rw [List.getElem?_map, List.getElem?_eq_getElem hj]; rfl)⟩
theorem manys {d : Int} (h0 : 0 ≤ d) (h1 : d < 6) : ∃ p : Int, p.natAbs ≤ 5 ∧ atI [D.int 0, .int 1, .int 2, .int 3, .int (-1), .int 5] d = some (.int p) := by
  rcases (by omega : d = (0 : Nat) ∨ d = (1 : Nat) ∨ d = (2 : Nat) ∨ d = (3 : Nat) ∨ d = (4 : Nat) ∨ d = (5 : Nat)) with h | h | h | h | h | h <;> subst h <;> exact ⟨_, by decide, atI_nat rfl⟩
theorem third_spec {i : Int} {S : Sto} {Q : DK} {E : EK} (h : i.natAbs ≤ 20000) (k : sr 15 ((i : Rat) / ((3 : Int) : Rat)) → Q (fr ((i : Rat) / ((3 : Int) : Rat))) S) : m_l_low [.int i, .int 3] S Q E := by
  have e : (i : Rat) / ((3 : Int) : Rat) * ((3 : Int) : Rat) = (i : Rat) := Rat.div_mul_cancel (castne (by decide))
  have s1 : sm 15 i := by unfold sm; omega
  have s2 : sm 15 3 := by unfold sm; decide
  exact low_spec (by decide) s1 s2 (by decide) e (k ⟨(low_sm (by decide) e s1 s2).1, (low_sm (by decide) e s1 s2).2⟩)
end Ld

namespace Ld
open PySem PySem.Spec PyProof.Rows L2 Bl Lb
local macro_rules | `(tactic| walk_at "bl0") => `(tactic| (with_reducible (first
  | (refine Go.gVr ?_; first | refine Go.vr0 ?_ | refine Go.vr1 ?_ | refine Go.vr2 ?_ | refine Go.vr3 ?_ | refine Go.vr4 ?_ | refine Go.vr5 ?_ | refine Go.vr6 ?_ | refine Go.vr7 ?_ | refine Go.vr8 ?_ | refine Go.vr9 ?_ | refine Go.vr10 ?_ | refine Go.vr11 ?_ | refine Go.vr12 ?_ | refine Go.vr13 ?_ | refine Go.vr14 ?_ | refine Go.vr15 ?_ | refine Go.vr16 ?_ | refine Go.vr17 ?_ | refine Go.vr18 ?_ | refine Go.vr19 ?_ | refine Go.vr20 ?_ | refine Go.vr21 ?_ | refine Go.vr22 ?_ | refine Go.vr23 ?_)
  | refine Go.seq ?_
  | refine Go.nx' ?_
  | refine Go.ret ?_
  | refine Go.if' ?_
  | refine Go.asg ?_
  | refine Go.par ?_
  | refine Go.drop ?_
  | refine Go.brk ?_
  | refine Go.cnt ?_
  | refine Go.raise ?_
  | refine Go.thru ?_
  | refine Go.tryAs ?_
  | refine Go.for' ?_
  | refine Go.sub ?_
  | refine Go.retN ?_
  | refine Go.par_cons ?_
  | refine Go.par_nil ?_
  | refine Go.cn' ?_
  | refine Go.two ?_
  | refine Go.nil ?_
  | refine Go.cons ?_
  | refine Go.tup ?_
  | refine Go.lst ?_
  | refine Go.lstR ?_
  | refine Go.tbl' ?_
  | refine Go.tblK' ?_
  | refine Go.ttr' ?_
  | refine Go.truB ?_
  | refine Go.truI ?_
  | refine Go.truN ?_
  | refine Go.and' ?_
  | refine Go.or' ?_
  | refine Go.not' ?_
  | refine Go.vOf' ?_
  | refine Go.vNot' ?_
  | refine Go.eIf' ?_
  | refine Go.ifT ?_
  | refine Go.ifF ?_
  | refine Go.ifN ?_
  | refine Go.add ?_
  | refine Go.sub' ?_
  | refine Go.lt ?_
  | refine Go.le ?_
  | refine Go.gt ?_
  | refine Go.ge ?_
  | refine Go.eqI ?_
  | refine Go.neI ?_
  | refine Go.is' ?_
  | refine Go.isNot' ?_
  | refine Go.chain ?_
  | refine Go.dB' ?_
  | refine Go.neg ?_
  | refine Go.neg' ?_
  | refine Go.abs' ?_
  | refine Go.lenT ?_
  | refine Go.lenL ?_
  | refine Go.max' ?_
  | refine Go.min' ?_
  | refine Go.intI ?_
  | refine Go.intB ?_
  | refine Go.tupL ?_
  | refine Go.tupT ?_
  | refine Go.isi ?_
  | refine Go.call ?_
  | refine Go.iVal' ?_
  | refine Go.iValT ?_
  | refine Go.iValL ?_
  | refine Go.r1 ?_
  | refine Go.r2 ?_
  | refine Go.star ?_
  | refine Go.l_cons ?_
  | refine Go.l_nil ?_
  | refine Go.enum' ?_
  | refine Go.rev' ?_
  | refine Go.zip' ?_
  | refine Go.wipe_nil ?_
  | refine Go.wipe_cons ?_
  | refine Go.iadd ?_
  | refine Go.sl ?_
  | refine Go.oN ?_
  | refine Go.oS ?_
  | refine Go.osK' ?_
  | refine Go.getL ?_
  | refine Go.lc ?_
  | refine Go.lcR ?_
  | refine Go.lg_nil ?_
  | refine Go.lg_cons ?_
  | refine Go.yes ?_
  | refine Go.for_nil ?_
  | refine Go.for_cons ?_
  | refine Go.revT ?_
  | refine Go.revL ?_
  | refine Go.zipT ?_
  | refine Go.zipL ?_
  | refine Go.tupK' rfl ?_
  | refine Go.lstK' rfl ?_
  | refine Go.callK' rfl rfl ?_
  | refine Go.lcL rfl ?_
  | refine Go.getLL' rfl ?_
  | refine Go.addT rfl ?_
  | (refine Go.gAsg ?_; first | refine Go.set0 ?_ | refine Go.set1 ?_ | refine Go.set2 ?_ | refine Go.set3 ?_ | refine Go.set4 ?_ | refine Go.set5 ?_ | refine Go.set6 ?_ | refine Go.set7 ?_ | refine Go.set8 ?_ | refine Go.set9 ?_ | refine Go.set10 ?_ | refine Go.set11 ?_ | refine Go.set12 ?_ | refine Go.set13 ?_ | refine Go.set14 ?_ | refine Go.set15 ?_ | refine Go.set16 ?_ | refine Go.set17 ?_ | refine Go.set18 ?_ | refine Go.set19 ?_ | refine Go.set20 ?_ | refine Go.set21 ?_ | refine Go.set22 ?_ | refine Go.set23 ?_ | refine Go.tp_cons ?_ | refine Go.tp_nil ?_)
  | (refine Go.gIxT ?_; first | refine Go.ixT0 ?_ | refine Go.ixT1 ?_ | refine Go.ixT2 ?_ | refine Go.ixT3 ?_ | refine Go.ixT4 ?_ | refine Go.ixT5 ?_ | refine Go.ixT6 ?_ | refine Go.ixT7 ?_)
  | (refine Go.gIxL ?_; first | refine Go.ixL0 ?_ | refine Go.ixL1 ?_ | refine Go.ixL2 ?_ | refine Go.ixL3 ?_ | refine Go.ixL4 ?_ | refine Go.ixL5 ?_ | refine Go.ixL6 ?_ | refine Go.ixL7 ?_)
  | (refine Go.gAug ?_; first | refine Go.aug0 ?_ | refine Go.aug1 ?_ | refine Go.aug2 ?_ | refine Go.aug3 ?_ | refine Go.aug4 ?_ | refine Go.aug5 ?_ | refine Go.aug6 ?_ | refine Go.aug7 ?_ | refine Go.aug8 ?_ | refine Go.aug9 ?_ | refine Go.aug10 ?_ | refine Go.aug11 ?_ | refine Go.aug12 ?_ | refine Go.aug13 ?_ | refine Go.aug14 ?_ | refine Go.aug15 ?_ | refine Go.aug16 ?_ | refine Go.aug17 ?_ | refine Go.aug18 ?_ | refine Go.aug19 ?_ | refine Go.aug20 ?_ | refine Go.aug21 ?_ | refine Go.aug22 ?_ | refine Go.aug23 ?_)
  | (refine Go.gStar ?_; first | refine Go.startup0 ?_ | refine Go.starlst0 ?_ | refine Go.startup1 ?_ | refine Go.starlst1 ?_ | refine Go.startup2 ?_ | refine Go.starlst2 ?_ | refine Go.startup3 ?_ | refine Go.starlst3 ?_ | refine Go.startup4 ?_ | refine Go.starlst4 ?_ | refine Go.startup_2 ?_ | refine Go.starlst_2 ?_ | refine Go.startup_3 ?_ | refine Go.starlst_3 ?_ | refine Go.startup_4 ?_ | refine Go.starlst_4 ?_)
  | refine Go.slfT1 ?_ | refine Go.sltT1 ?_ | refine Go.slfL1 ?_ | refine Go.sltL1 ?_ | refine Go.slfT2 ?_ | refine Go.sltT2 ?_ | refine Go.slfL2 ?_ | refine Go.sltL2 ?_ | refine Go.slfT3 ?_ | refine Go.sltT3 ?_ | refine Go.slfL3 ?_ | refine Go.sltL3 ?_ | refine Go.slfT4 ?_ | refine Go.sltT4 ?_ | refine Go.slfL4 ?_ | refine Go.sltL4 ?_
  | (refine Go.gUns ?_; first | refine Go.uns0 ?_ | refine Go.uns1 ?_ | refine Go.uns2 ?_ | refine Go.uns3 ?_ | refine Go.uns4 ?_ | refine Go.uns5 ?_ | refine Go.uns6 ?_ | refine Go.uns7 ?_ | refine Go.uns8 ?_ | refine Go.uns9 ?_ | refine Go.uns10 ?_ | refine Go.uns11 ?_ | refine Go.uns12 ?_ | refine Go.uns13 ?_ | refine Go.uns14 ?_ | refine Go.uns15 ?_ | refine Go.uns16 ?_ | refine Go.uns17 ?_ | refine Go.uns18 ?_ | refine Go.uns19 ?_ | refine Go.uns20 ?_ | refine Go.uns21 ?_ | refine Go.uns22 ?_ | refine Go.uns23 ?_)
  | refine Go.entup0 ?_ | refine Go.enlst0 ?_ | refine Go.entup1 ?_ | refine Go.enlst1 ?_ | refine Go.entup2 ?_ | refine Go.enlst2 ?_ | refine Go.entup3 ?_ | refine Go.enlst3 ?_ | refine Go.entup4 ?_ | refine Go.enlst4 ?_ | refine Go.entup5 ?_ | refine Go.enlst5 ?_ | refine Go.entup6 ?_ | refine Go.enlst6 ?_)))
local macro_rules | `(tactic| walk_at "bl1") => `(tactic| first | ((with_reducible refine Go.gEqS ?_); (first | refine Go.eqS (b := true) ⟨rfl, by decide +kernel⟩ ⟨rfl, by decide +kernel⟩ rfl ?_ | refine Go.eqS (b := false) ⟨rfl, by decide +kernel⟩ ⟨rfl, by decide +kernel⟩ rfl ?_)) | ((with_reducible refine Go.gNeS ?_); (first | refine Go.neS (b := true) ⟨rfl, by decide +kernel⟩ ⟨rfl, by decide +kernel⟩ rfl ?_ | refine Go.neS (b := false) ⟨rfl, by decide +kernel⟩ ⟨rfl, by decide +kernel⟩ rfl ?_)) | walk_at "bl0" | ((with_reducible refine Go.gAll ?_); (refine Go.allB (by rfl) ?_)) | ((with_reducible refine Go.gIxT ?_); (refine Go.ixT (by rfl) ?_)) | ((with_reducible refine Go.gIxL ?_); (refine Go.ixL (by rfl) ?_)))
local macro_rules | `(tactic| walk_at "bl") => `(tactic| (repeat walk_at "bl1"))
/-! ### how far from a straight piece: plain -/
theorem side_rel {a b : P2} (hne : a ≠ b) : ∃ G : Int, 0 < G ∧ (dif b a).2 = G * (outw a b).1 ∧ 0 - (dif b a).1 = G * (outw a b).2 := by
  have h0 : ((dif b a).2, 0 - (dif b a).1) ≠ ((0, 0) : P2) := fun z => by
    have h1 := congrArg Prod.fst z
    have h2 := congrArg Prod.snd z
    dsimp only at h1 h2
    exact dif_ne (Ne.symm hne) (Prod.ext (by dsimp only; omega) h1)
  obtain ⟨h1, h2⟩ := low_mul h0
  exact ⟨_, gcd_pos' h0, h1, h2⟩
/-- what a straight piece and a place are to one another -/
structure Lay (a b : P2) (P : R2) (G L : Int) (C t : Rat) : Prop where
  g0 : 0 < G
  l0 : 0 < L
  eL : L = dot (dif b a) (dif b a)
  eC : C = crsR (difR P a) (dif b a)
  et : t = dotR (difR P a) (dif b a)
  hgt : (G : Rat) * heightR P a b = C
  ff : (G : Rat) * G * (dot (outw a b) (outw a b) : Int) = L
  nu : C * C + t * t = nrm (difR P a) * L
  nv : C * C + (t - L) * (t - L) = nrm (difR P b) * L
  ca : (G : Rat) * crsR (difR P a) (outw a b) = -t
  cb : (G : Rat) * crsR (difR P b) (outw a b) = L - t
theorem lay_of {a b : P2} (hne : a ≠ b) (P : R2) : ∃ (G L : Int) (C t : Rat), Lay a b P G L C t := by
  obtain ⟨G, g0, h1, h2⟩ := side_rel hne
  have r1 : ((dif b a).2 : Rat) = G * (outw a b).1 := by rw [h1, Rat.intCast_mul]
  have r2 : ((dif b a).1 : Rat) = - ((G : Rat) * (outw a b).2) := by
    have : (dif b a).1 = - (G * (outw a b).2) := by omega
    rw [this, Rat.intCast_neg, Rat.intCast_mul]
  have eL : ((dot (dif b a) (dif b a) : Int) : Rat) = (dif b a).1 * (dif b a).1 + (dif b a).2 * (dif b a).2 := by
    unfold Lb.dot
    rw [Rat.intCast_add, Rat.intCast_mul, Rat.intCast_mul]
  have d1 : (difR P b).1 = (difR P a).1 - (dif b a).1 := by
    unfold difR dif
    dsimp only
    rw [Rat.intCast_sub]
    grind
  have d2 : (difR P b).2 = (difR P a).2 - (dif b a).2 := by
    unfold difR dif
    dsimp only
    rw [Rat.intCast_sub]
    grind
  refine ⟨G, dot (dif b a) (dif b a), _, _, g0, dot_pos (dif_ne (Ne.symm hne)), rfl, rfl, rfl, ?_, ?_, ?_, ?_, ?_, ?_⟩
  · unfold heightR dotR crsR
    rw [r1, r2]
    grind
  · rw [eL]
    unfold Lb.dot
    rw [Rat.intCast_add, Rat.intCast_mul, Rat.intCast_mul, r1, r2]
    grind
  · rw [eL]
    unfold crsR dotR nrm
    grind
  · rw [eL]
    unfold crsR dotR nrm
    rw [d1, d2]
    grind
  · unfold dotR crsR
    rw [r1, r2]
    grind
  · rw [eL]
    unfold dotR crsR
    rw [d1, d2, r1, r2]
    grind
theorem Lay.by {a b : P2} {P : R2} {G L : Int} {C t : Rat} (h : Lay a b P G L C t) : byR a b P = if t ≤ 0 then nrm (difR P a) else if (L : Rat) ≤ t then nrm (difR P b) else C * C / L := by
  unfold byR
  dsimp only
  rw [h.eL, h.eC, h.et]
theorem Lay.lr {a b : P2} {P : R2} {G L : Int} {C t : Rat} (h : Lay a b P G L C t) : (0 : Rat) < L := Rat.intCast_pos.mpr h.l0
theorem Lay.gr {a b : P2} {P : R2} {G L : Int} {C t : Rat} (h : Lay a b P G L C t) : (0 : Rat) < G := Rat.intCast_pos.mpr h.g0
/-- between the ends: the square of the height -/
theorem Lay.mid {a b : P2} {P : R2} {G L : Int} {C t : Rat} (h : Lay a b P G L C t) (h0 : 0 ≤ t) (h1 : t ≤ L) : byR a b P * L = C * C := by
  have l0 := h.lr
  have nu := h.nu
  have nv := h.nv
  rw [h.by]
  split
  · have : t = 0 := Rat.le_antisymm (by assumption) h0
    rw [← nu, this]
    grind
  split
  · have : t = L := Rat.le_antisymm h1 (by assumption)
    rw [← nv, this]
    grind
  · exact Rat.div_mul_cancel (fun z => by rw [z] at l0; exact absurd l0 (by decide))
theorem Lay.beside {a b : P2} {P : R2} {G L : Int} {C t : Rat} (h : Lay a b P G L C t) : besideR P a b ↔ 0 ≤ t ∧ t ≤ L := by
  unfold besideR
  rw [h.et, h.eL]
theorem Lay.side {a b : P2} {P : R2} {G L : Int} {C t : Rat} (h : Lay a b P G L C t) : spokedR P (.side a b) ↔ 0 < C ∧ 0 ≤ t ∧ t ≤ L := by
  show 0 < heightR P a b ∧ besideR P a b ↔ _
  rw [h.beside, ← h.hgt, Rat.mul_pos_iff_of_pos_left h.gr]
theorem Lay.flip {a b : P2} {P : R2} {G L : Int} {C t : Rat} (h : Lay a b P G L C t) (hne : a ≠ b) : ∃ G', Lay b a P G' L (-C) (L - t) := by
  obtain ⟨G', L', C', t', k⟩ := lay_of (Ne.symm hne) P
  have e1 : dif a b = (- (dif b a).1, - (dif b a).2) := by
    unfold dif
    exact Prod.ext (by dsimp only; omega) (by dsimp only; omega)
  have eL : L' = L := by
    rw [k.eL, h.eL, e1]
    unfold Lb.dot
    dsimp only
    grind
  have d1 : (difR P b).1 = (difR P a).1 - (dif b a).1 := by
    unfold difR dif
    dsimp only
    rw [Rat.intCast_sub]
    grind
  have d2 : (difR P b).2 = (difR P a).2 - (dif b a).2 := by
    unfold difR dif
    dsimp only
    rw [Rat.intCast_sub]
    grind
  have rL : (L : Rat) = (dif b a).1 * (dif b a).1 + (dif b a).2 * (dif b a).2 := by
    rw [h.eL]
    unfold Lb.dot
    rw [Rat.intCast_add, Rat.intCast_mul, Rat.intCast_mul]
  have eC : C' = -C := by
    rw [k.eC, h.eC, e1]
    unfold crsR
    dsimp only
    rw [Rat.intCast_neg, Rat.intCast_neg, d1, d2]
    grind
  have et : t' = L - t := by
    rw [k.et, h.et, rL, e1]
    unfold dotR
    dsimp only
    rw [Rat.intCast_neg, Rat.intCast_neg, d1, d2]
    grind
  rw [← eL, ← eC] at *
  exact ⟨G', by rw [← et]; exact k⟩
theorem outw_ne {a b : P2} (hne : a ≠ b) : outw a b ≠ outw b a := fun z => by
  obtain ⟨G, g0, h1, h2⟩ := side_rel hne
  obtain ⟨G', g0', h3, h4⟩ := side_rel (Ne.symm hne)
  rw [← z] at h3 h4
  have e1 : (dif a b).1 = - (dif b a).1 := by unfold dif; dsimp only; omega
  have e2 : (dif a b).2 = - (dif b a).2 := by unfold dif; dsimp only; omega
  have k1 : (G + G') * (outw a b).1 = 0 := by rw [Int.add_mul]; omega
  have k2 : (G + G') * (outw a b).2 = 0 := by rw [Int.add_mul]; omega
  have y1 : (outw a b).1 = 0 := (Int.mul_eq_zero.mp k1).resolve_left (by omega)
  have y2 : (outw a b).2 = 0 := (Int.mul_eq_zero.mp k2).resolve_left (by omega)
  rw [y1, Int.mul_zero] at h1
  rw [y2, Int.mul_zero] at h2
  exact dif_ne (Ne.symm hne) (Prod.ext (by dsimp only; omega) h1)
theorem nrm_zero {u : R2} : nrm u ≤ 0 ↔ nrm u = 0 := ⟨fun h => Rat.le_antisymm h (nrm_nonneg u), fun h => by rw [h]; exact Rat.le_refl⟩
theorem round0 {c f l : P2} {P : R2} (hne : f ≠ l) : spokedR P (.round c 0 f l) ↔ nrm (difR P c) ≠ 0 ∧ crsR (difR P c) f ≤ 0 ∧ 0 ≤ crsR (difR P c) l := by
  show (¬ nrm (difR P c) ≤ ((0 * 0 : Int) : Rat) ∧ (f = l ∨ (crsR (difR P c) f ≤ 0 ∧ 0 ≤ crsR (difR P c) l))) ↔ _
  rw [show ((0 * 0 : Int) : Rat) = 0 from rfl, nrm_zero]
  exact ⟨fun h => ⟨h.1, h.2.resolve_left hne⟩, fun h => ⟨h.1, .inr h.2⟩⟩
theorem neg_sign {G x y : Rat} (g : 0 < G) (h : G * x = y) : (x ≤ 0 ↔ y ≤ 0) ∧ (0 ≤ x ↔ 0 ≤ y) := by
  subst h
  constructor
  · rw [← Rat.not_lt, ← Rat.not_lt, Rat.mul_pos_iff_of_pos_left g]
  · rw [← Rat.not_lt, ← Rat.not_lt, Rat.mul_neg_iff_of_pos_left g]
/-- the ends of a straight piece -/
theorem Lay.zero {a b : P2} {P : R2} {G L : Int} {C t : Rat} (h : Lay a b P G L C t) (h1 : ¬ (0 < C ∧ 0 ≤ t ∧ t ≤ L)) (h2 : ¬ (C < 0 ∧ 0 ≤ t ∧ t ≤ L)) (h3 : ¬ (nrm (difR P b) ≠ 0 ∧ (L : Rat) ≤ t)) (h4 : ¬ (nrm (difR P a) ≠ 0 ∧ t ≤ 0)) : byR a b P = 0 := by
  have l0 := h.lr
  rw [h.by]
  split
  · by_cases z : nrm (difR P a) = 0
    · exact z
    · exact absurd ⟨z, by assumption⟩ h4
  split
  · by_cases z : nrm (difR P b) = 0
    · exact z
    · exact absurd ⟨z, by assumption⟩ h3
  · have c0 : C = 0 := by
      by_cases z : 0 < C
      · exact absurd ⟨z, by grind, by grind⟩ h1
      by_cases y : C < 0
      · exact absurd ⟨y, by grind, by grind⟩ h2
      · exact Rat.le_antisymm (Rat.not_lt.mp z) (Rat.not_lt.mp y)
    rw [c0, Rat.zero_mul, Rat.div_def, Rat.zero_mul]
end Ld

namespace Ld
open PySem PySem.Spec PyProof.Rows L2 Bl Lb
local macro_rules | `(tactic| walk_at "bl0") => `(tactic| (with_reducible (first
  | (refine Go.gVr ?_; first | refine Go.vr0 ?_ | refine Go.vr1 ?_ | refine Go.vr2 ?_ | refine Go.vr3 ?_ | refine Go.vr4 ?_ | refine Go.vr5 ?_ | refine Go.vr6 ?_ | refine Go.vr7 ?_ | refine Go.vr8 ?_ | refine Go.vr9 ?_ | refine Go.vr10 ?_ | refine Go.vr11 ?_ | refine Go.vr12 ?_ | refine Go.vr13 ?_ | refine Go.vr14 ?_ | refine Go.vr15 ?_ | refine Go.vr16 ?_ | refine Go.vr17 ?_ | refine Go.vr18 ?_ | refine Go.vr19 ?_ | refine Go.vr20 ?_ | refine Go.vr21 ?_ | refine Go.vr22 ?_ | refine Go.vr23 ?_)
  | refine Go.seq ?_
  | refine Go.nx' ?_
  | refine Go.ret ?_
  | refine Go.if' ?_
  | refine Go.asg ?_
  | refine Go.par ?_
  | refine Go.drop ?_
  | refine Go.brk ?_
  | refine Go.cnt ?_
  | refine Go.raise ?_
  | refine Go.thru ?_
  | refine Go.tryAs ?_
  | refine Go.for' ?_
  | refine Go.sub ?_
  | refine Go.retN ?_
  | refine Go.par_cons ?_
  | refine Go.par_nil ?_
  | refine Go.cn' ?_
  | refine Go.two ?_
  | refine Go.nil ?_
  | refine Go.cons ?_
  | refine Go.tup ?_
  | refine Go.lst ?_
  | refine Go.lstR ?_
  | refine Go.tbl' ?_
  | refine Go.tblK' ?_
  | refine Go.ttr' ?_
  | refine Go.truB ?_
  | refine Go.truI ?_
  | refine Go.truN ?_
  | refine Go.and' ?_
  | refine Go.or' ?_
  | refine Go.not' ?_
  | refine Go.vOf' ?_
  | refine Go.vNot' ?_
  | refine Go.eIf' ?_
  | refine Go.ifT ?_
  | refine Go.ifF ?_
  | refine Go.ifN ?_
  | refine Go.add ?_
  | refine Go.sub' ?_
  | refine Go.lt ?_
  | refine Go.le ?_
  | refine Go.gt ?_
  | refine Go.ge ?_
  | refine Go.eqI ?_
  | refine Go.neI ?_
  | refine Go.is' ?_
  | refine Go.isNot' ?_
  | refine Go.chain ?_
  | refine Go.dB' ?_
  | refine Go.neg ?_
  | refine Go.neg' ?_
  | refine Go.abs' ?_
  | refine Go.lenT ?_
  | refine Go.lenL ?_
  | refine Go.max' ?_
  | refine Go.min' ?_
  | refine Go.intI ?_
  | refine Go.intB ?_
  | refine Go.tupL ?_
  | refine Go.tupT ?_
  | refine Go.isi ?_
  | refine Go.call ?_
  | refine Go.iVal' ?_
  | refine Go.iValT ?_
  | refine Go.iValL ?_
  | refine Go.r1 ?_
  | refine Go.r2 ?_
  | refine Go.star ?_
  | refine Go.l_cons ?_
  | refine Go.l_nil ?_
  | refine Go.enum' ?_
  | refine Go.rev' ?_
  | refine Go.zip' ?_
  | refine Go.wipe_nil ?_
  | refine Go.wipe_cons ?_
  | refine Go.iadd ?_
  | refine Go.sl ?_
  | refine Go.oN ?_
  | refine Go.oS ?_
  | refine Go.osK' ?_
  | refine Go.getL ?_
  | refine Go.lc ?_
  | refine Go.lcR ?_
  | refine Go.lg_nil ?_
  | refine Go.lg_cons ?_
  | refine Go.yes ?_
  | refine Go.for_nil ?_
  | refine Go.for_cons ?_
  | refine Go.revT ?_
  | refine Go.revL ?_
  | refine Go.zipT ?_
  | refine Go.zipL ?_
  | refine Go.tupK' rfl ?_
  | refine Go.lstK' rfl ?_
  | refine Go.callK' rfl rfl ?_
  | refine Go.lcL rfl ?_
  | refine Go.getLL' rfl ?_
  | refine Go.addT rfl ?_
  | (refine Go.gAsg ?_; first | refine Go.set0 ?_ | refine Go.set1 ?_ | refine Go.set2 ?_ | refine Go.set3 ?_ | refine Go.set4 ?_ | refine Go.set5 ?_ | refine Go.set6 ?_ | refine Go.set7 ?_ | refine Go.set8 ?_ | refine Go.set9 ?_ | refine Go.set10 ?_ | refine Go.set11 ?_ | refine Go.set12 ?_ | refine Go.set13 ?_ | refine Go.set14 ?_ | refine Go.set15 ?_ | refine Go.set16 ?_ | refine Go.set17 ?_ | refine Go.set18 ?_ | refine Go.set19 ?_ | refine Go.set20 ?_ | refine Go.set21 ?_ | refine Go.set22 ?_ | refine Go.set23 ?_ | refine Go.tp_cons ?_ | refine Go.tp_nil ?_)
  | (refine Go.gIxT ?_; first | refine Go.ixT0 ?_ | refine Go.ixT1 ?_ | refine Go.ixT2 ?_ | refine Go.ixT3 ?_ | refine Go.ixT4 ?_ | refine Go.ixT5 ?_ | refine Go.ixT6 ?_ | refine Go.ixT7 ?_)
  | (refine Go.gIxL ?_; first | refine Go.ixL0 ?_ | refine Go.ixL1 ?_ | refine Go.ixL2 ?_ | refine Go.ixL3 ?_ | refine Go.ixL4 ?_ | refine Go.ixL5 ?_ | refine Go.ixL6 ?_ | refine Go.ixL7 ?_)
  | (refine Go.gAug ?_; first | refine Go.aug0 ?_ | refine Go.aug1 ?_ | refine Go.aug2 ?_ | refine Go.aug3 ?_ | refine Go.aug4 ?_ | refine Go.aug5 ?_ | refine Go.aug6 ?_ | refine Go.aug7 ?_ | refine Go.aug8 ?_ | refine Go.aug9 ?_ | refine Go.aug10 ?_ | refine Go.aug11 ?_ | refine Go.aug12 ?_ | refine Go.aug13 ?_ | refine Go.aug14 ?_ | refine Go.aug15 ?_ | refine Go.aug16 ?_ | refine Go.aug17 ?_ | refine Go.aug18 ?_ | refine Go.aug19 ?_ | refine Go.aug20 ?_ | refine Go.aug21 ?_ | refine Go.aug22 ?_ | refine Go.aug23 ?_)
  | (refine Go.gStar ?_; first | refine Go.startup0 ?_ | refine Go.starlst0 ?_ | refine Go.startup1 ?_ | refine Go.starlst1 ?_ | refine Go.startup2 ?_ | refine Go.starlst2 ?_ | refine Go.startup3 ?_ | refine Go.starlst3 ?_ | refine Go.startup4 ?_ | refine Go.starlst4 ?_ | refine Go.startup_2 ?_ | refine Go.starlst_2 ?_ | refine Go.startup_3 ?_ | refine Go.starlst_3 ?_ | refine Go.startup_4 ?_ | refine Go.starlst_4 ?_)
  | refine Go.slfT1 ?_ | refine Go.sltT1 ?_ | refine Go.slfL1 ?_ | refine Go.sltL1 ?_ | refine Go.slfT2 ?_ | refine Go.sltT2 ?_ | refine Go.slfL2 ?_ | refine Go.sltL2 ?_ | refine Go.slfT3 ?_ | refine Go.sltT3 ?_ | refine Go.slfL3 ?_ | refine Go.sltL3 ?_ | refine Go.slfT4 ?_ | refine Go.sltT4 ?_ | refine Go.slfL4 ?_ | refine Go.sltL4 ?_
  | (refine Go.gUns ?_; first | refine Go.uns0 ?_ | refine Go.uns1 ?_ | refine Go.uns2 ?_ | refine Go.uns3 ?_ | refine Go.uns4 ?_ | refine Go.uns5 ?_ | refine Go.uns6 ?_ | refine Go.uns7 ?_ | refine Go.uns8 ?_ | refine Go.uns9 ?_ | refine Go.uns10 ?_ | refine Go.uns11 ?_ | refine Go.uns12 ?_ | refine Go.uns13 ?_ | refine Go.uns14 ?_ | refine Go.uns15 ?_ | refine Go.uns16 ?_ | refine Go.uns17 ?_ | refine Go.uns18 ?_ | refine Go.uns19 ?_ | refine Go.uns20 ?_ | refine Go.uns21 ?_ | refine Go.uns22 ?_ | refine Go.uns23 ?_)
  | refine Go.entup0 ?_ | refine Go.enlst0 ?_ | refine Go.entup1 ?_ | refine Go.enlst1 ?_ | refine Go.entup2 ?_ | refine Go.enlst2 ?_ | refine Go.entup3 ?_ | refine Go.enlst3 ?_ | refine Go.entup4 ?_ | refine Go.enlst4 ?_ | refine Go.entup5 ?_ | refine Go.enlst5 ?_ | refine Go.entup6 ?_ | refine Go.enlst6 ?_)))
local macro_rules | `(tactic| walk_at "bl1") => `(tactic| first | ((with_reducible refine Go.gEqS ?_); (first | refine Go.eqS (b := true) ⟨rfl, by decide +kernel⟩ ⟨rfl, by decide +kernel⟩ rfl ?_ | refine Go.eqS (b := false) ⟨rfl, by decide +kernel⟩ ⟨rfl, by decide +kernel⟩ rfl ?_)) | ((with_reducible refine Go.gNeS ?_); (first | refine Go.neS (b := true) ⟨rfl, by decide +kernel⟩ ⟨rfl, by decide +kernel⟩ rfl ?_ | refine Go.neS (b := false) ⟨rfl, by decide +kernel⟩ ⟨rfl, by decide +kernel⟩ rfl ?_)) | walk_at "bl0" | ((with_reducible refine Go.gAll ?_); (refine Go.allB (by rfl) ?_)) | ((with_reducible refine Go.gIxT ?_); (refine Go.ixT (by rfl) ?_)) | ((with_reducible refine Go.gIxL ?_); (refine Go.ixL (by rfl) ?_)))
local macro_rules | `(tactic| walk_at "bl") => `(tactic| (repeat walk_at "bl1"))
/-! ### how far from a bow: plain -/
section
variable {R E1 E2 x y C t n : Rat}
theorem key_a (hR : 0 < R) (h1 : E1 < 0) (h2 : E2 ≤ 0) (eC : R * C = x * E2 - y * E1) (et : R * t = x * E1 + y * E2) (hy : y < 0) (ht : t ≤ 0) (hC : 0 < C) : False := by
  have a1 : 0 < y * E1 := by
    have := Rat.mul_pos (show 0 < -y by grind) (show 0 < -E1 by grind)
    grind
  have a2 : 0 ≤ y * E2 := by
    have := Rat.mul_nonneg (show 0 ≤ -y by grind) (show 0 ≤ -E2 by grind)
    grind
  have a3 : R * t ≤ 0 := by
    have := Rat.mul_nonneg (Rat.le_of_lt hR) (show 0 ≤ -t by grind)
    grind
  have x0 : 0 ≤ x := by
    rw [← Rat.not_lt]
    intro z
    have := Rat.mul_pos (show 0 < -x by grind) (show 0 < -E1 by grind)
    grind
  have a4 : 0 ≤ -(x * E2) := by
    have := Rat.mul_nonneg x0 (show 0 ≤ -E2 by grind)
    grind
  have a5 := Rat.mul_pos hR hC
  grind
end
/-- what a bow and a place are to one another: in numbers -/
structure BL (c p q : P2) (P : R2) (R E1 E2 x y X Y : Rat) (G L : Int) (C t : Rat) : Prop where
  lay : Lay q p P G L C t
  r0 : 0 < R
  e1 : E1 < 0
  e2 : E2 ≤ 0
  eR : R = (dot (dif p c) (dif p c) : Int)
  ey : y = - crsR (difR P c) (dif q c)
  eY : Y = crsR (difR P c) (dif p c)
  c1 : R * C = x * E2 - y * E1
  t1 : R * t = x * E1 + y * E2
  c2 : R * C = X * E2 - Y * E1
  t2 : R * (L - t) = X * E1 + Y * E2
  u1 : nrm (difR P c) - R = 2 * x + nrm (difR P q)
  u2 : nrm (difR P c) - R = 2 * X + nrm (difR P p)
  c3 : C = y + Y - E2
  u3 : nrm (difR P c) * (E2 * E2) = R * (y * y + Y * Y) + 2 * y * Y * (E1 + R)
  xb : dotR (difR P c) (dif q c) = x + R
  xa : dotR (difR P c) (dif p c) = X + R
  lb : nrm (difR P c) * R = (x + R) * (x + R) + y * y
  la : nrm (difR P c) * R = (X + R) * (X + R) + Y * Y
theorem bl_of {c p q : P2} (h : BowOk c p q) (P : R2) : ∃ (R E1 E2 x y X Y : Rat) (G L : Int) (C t : Rat), BL c p q P R E1 E2 x y X Y G L C t := by
  obtain ⟨G, L, C, t, l⟩ := lay_of (Ne.symm h.ne) P
  have eq : dot (dif p c) (dif p c) = dot (dif q c) (dif q c) := by
    have := h.eq
    rw [far_comm c p, far_comm c q] at this
    exact this
  have np := (BowOk.np h).1
  have R0 : 0 < dot (dif p c) (dif p c) := dot_pos (dif_ne np)
  have dd : dif p q = ((dif p c).1 - (dif q c).1, (dif p c).2 - (dif q c).2) := by
    unfold dif
    exact Prod.ext (by dsimp only; omega) (by dsimp only; omega)
  have lp : 0 < dot (dif p q) (dif p q) := dot_pos (dif_ne h.ne)
  have lexp : dot (dif p q) (dif p q) = dot (dif p c) (dif p c) - 2 * dot (dif p c) (dif q c) + dot (dif q c) (dif q c) := by
    rw [dd]
    unfold Lb.dot
    dsimp only
    grind
  have i1 : dot (dif p c) (dif q c) - dot (dif p c) (dif p c) < 0 := by omega
  have i2 : - crs (dif p c) (dif q c) ≤ 0 := by have := h.tn; omega
  have rR : ((dot (dif p c) (dif p c) : Int) : Rat) = (dif p c).1 * (dif p c).1 + (dif p c).2 * (dif p c).2 := by
    unfold Lb.dot
    rw [Rat.intCast_add, Rat.intCast_mul, Rat.intCast_mul]
  have rR2 : ((dot (dif p c) (dif p c) : Int) : Rat) = (dif q c).1 * (dif q c).1 + (dif q c).2 * (dif q c).2 := by
    rw [eq]
    unfold Lb.dot
    rw [Rat.intCast_add, Rat.intCast_mul, Rat.intCast_mul]
  have rD : ((dot (dif p c) (dif q c) : Int) : Rat) = (dif p c).1 * (dif q c).1 + (dif p c).2 * (dif q c).2 := by
    unfold Lb.dot
    rw [Rat.intCast_add, Rat.intCast_mul, Rat.intCast_mul]
  have rX : ((crs (dif p c) (dif q c) : Int) : Rat) = (dif p c).1 * (dif q c).2 - (dif p c).2 * (dif q c).1 := by
    unfold Lb.crs
    rw [Rat.intCast_sub, Rat.intCast_mul, Rat.intCast_mul]
  have q1 : (difR P q).1 = (difR P c).1 - (dif q c).1 := by
    unfold difR dif
    dsimp only
    rw [Rat.intCast_sub]
    grind
  have q2 : (difR P q).2 = (difR P c).2 - (dif q c).2 := by
    unfold difR dif
    dsimp only
    rw [Rat.intCast_sub]
    grind
  have p1 : (difR P p).1 = (difR P c).1 - (dif p c).1 := by
    unfold difR dif
    dsimp only
    rw [Rat.intCast_sub]
    grind
  have p2 : (difR P p).2 = (difR P c).2 - (dif p c).2 := by
    unfold difR dif
    dsimp only
    rw [Rat.intCast_sub]
    grind
  have w1 : ((dif p q).1 : Rat) = (dif p c).1 - (dif q c).1 := by rw [dd, ← Rat.intCast_sub]
  have w2 : ((dif p q).2 : Rat) = (dif p c).2 - (dif q c).2 := by rw [dd, ← Rat.intCast_sub]
  have rL : (L : Rat) = (dif p q).1 * (dif p q).1 + (dif p q).2 * (dif p q).2 := by
    rw [l.eL]
    unfold Lb.dot
    rw [Rat.intCast_add, Rat.intCast_mul, Rat.intCast_mul]
  have hC := l.eC
  have ht := l.et
  unfold crsR at hC
  unfold dotR at ht
  rw [q1, q2, w1, w2] at hC ht
  rw [w1, w2] at rL
  refine ⟨_, ((dot (dif p c) (dif q c) - dot (dif p c) (dif p c) : Int) : Rat), ((- crs (dif p c) (dif q c) : Int) : Rat), dotR (difR P q) (dif q c), _, dotR (difR P p) (dif p c), _, G, L, C, t, l, Rat.intCast_pos.mpr R0, Rat.intCast_neg_iff.mpr i1, ?_, rfl, rfl, rfl, ?_, ?_, ?_, ?_, ?_, ?_, ?_, ?_, ?_, ?_, ?_, ?_⟩
  · rw [← Rat.not_lt, Rat.intCast_pos]
    omega
  all_goals
    try rw [Rat.intCast_sub]
    try rw [Rat.intCast_neg]
    try rw [rD]
    try rw [rX]
    try unfold crsR
    try unfold dotR
    try unfold nrm
    try rw [q1, q2]
    try rw [p1, p2]
    generalize ((dif p c).1 : Rat) = a1 at *
    generalize ((dif p c).2 : Rat) = a2 at *
    generalize ((dif q c).1 : Rat) = b1 at *
    generalize ((dif q c).2 : Rat) = b2 at *
    generalize ((dot (dif p c) (dif p c) : Int) : Rat) = RR at *
    grind
theorem low_dir {a : P2} (ha : a ≠ (0, 0)) : ∃ g : Int, 0 < g ∧ a.1 = g * (low a).1 ∧ a.2 = g * (low a).2 := ⟨_, gcd_pos' ha, (low_mul ha).1, (low_mul ha).2⟩
theorem crsR_low {a : P2} (ha : a ≠ (0, 0)) (u : R2) : (crsR u (low a) ≤ 0 ↔ crsR u a ≤ 0) ∧ (0 ≤ crsR u (low a) ↔ 0 ≤ crsR u a) := by
  obtain ⟨g, g0, h1, h2⟩ := low_dir ha
  refine neg_sign (G := g) (Rat.intCast_pos.mpr g0) ?_
  unfold crsR
  rw [h1, h2, Rat.intCast_mul, Rat.intCast_mul]
  grind
theorem crsR_shift (P : R2) (q c : P2) : crsR (difR P q) (dif q c) = crsR (difR P c) (dif q c) := by
  unfold crsR difR dif
  dsimp only
  rw [Rat.intCast_sub, Rat.intCast_sub]
  grind
theorem low_ne {a b : P2} (ha : a ≠ (0, 0)) (hb : b ≠ (0, 0)) (e : dot a a = dot b b) (hne : a ≠ b) : low a ≠ low b := fun z => by
  obtain ⟨g, g0, h1, h2⟩ := low_dir ha
  obtain ⟨k, k0, h3, h4⟩ := low_dir hb
  rw [← z] at h3 h4
  have d0 := dot_pos ha
  have e1 : dot a a = g * g * dot (low a) (low a) := by
    conv => lhs; unfold Lb.dot; rw [h1, h2]
    unfold Lb.dot
    grind
  have e2 : dot b b = k * k * dot (low a) (low a) := by
    conv => lhs; unfold Lb.dot; rw [h3, h4]
    unfold Lb.dot
    grind
  have gg := Int.mul_pos g0 g0
  have dl : 0 < dot (low a) (low a) := by
    have nn := dot_nonneg (low a)
    rcases Int.lt_or_le 0 (dot (low a) (low a)) with y | y
    · exact y
    · rw [show dot (low a) (low a) = 0 by omega, Int.mul_zero] at e1
      omega
  have e3 : g * g = k * k := Int.eq_of_mul_eq_mul_right (by omega : dot (low a) (low a) ≠ 0) (by rw [← e1, ← e2, e])
  have e4 : g = k := by
    have : (g - k) * (g + k) = 0 := by grind
    rcases Int.mul_eq_zero.mp this with y | y <;> omega
  rw [← e4] at h3 h4
  exact hne (Prod.ext (by rw [h1, h3]) (by rw [h2, h4]))
theorem low_outw {a : P2} {q p : P2} (ha : a ≠ (0, 0)) (hne : q ≠ p) (h : dot a (dif p q) ≠ 0) : low a ≠ outw q p := fun z => by
  obtain ⟨g, g0, h1, h2⟩ := low_dir ha
  obtain ⟨G, G0, h3, h4⟩ := side_rel hne
  rw [← z] at h3 h4
  have : G * dot a (dif p q) = 0 := by
    have h5 : (dif p q).1 = - (G * (low a).2) := by omega
    unfold Lb.dot
    rw [h1, h2, h3, h5]
    grind
  rcases Int.mul_eq_zero.mp this with y | y
  · omega
  · exact h y
end Ld

namespace Ld
open PySem PySem.Spec PyProof.Rows L2 Bl Lb
local macro_rules | `(tactic| walk_at "bl0") => `(tactic| (with_reducible (first
  | (refine Go.gVr ?_; first | refine Go.vr0 ?_ | refine Go.vr1 ?_ | refine Go.vr2 ?_ | refine Go.vr3 ?_ | refine Go.vr4 ?_ | refine Go.vr5 ?_ | refine Go.vr6 ?_ | refine Go.vr7 ?_ | refine Go.vr8 ?_ | refine Go.vr9 ?_ | refine Go.vr10 ?_ | refine Go.vr11 ?_ | refine Go.vr12 ?_ | refine Go.vr13 ?_ | refine Go.vr14 ?_ | refine Go.vr15 ?_ | refine Go.vr16 ?_ | refine Go.vr17 ?_ | refine Go.vr18 ?_ | refine Go.vr19 ?_ | refine Go.vr20 ?_ | refine Go.vr21 ?_ | refine Go.vr22 ?_ | refine Go.vr23 ?_)
  | refine Go.seq ?_
  | refine Go.nx' ?_
  | refine Go.ret ?_
  | refine Go.if' ?_
  | refine Go.asg ?_
  | refine Go.par ?_
  | refine Go.drop ?_
  | refine Go.brk ?_
  | refine Go.cnt ?_
  | refine Go.raise ?_
  | refine Go.thru ?_
  | refine Go.tryAs ?_
  | refine Go.for' ?_
  | refine Go.sub ?_
  | refine Go.retN ?_
  | refine Go.par_cons ?_
  | refine Go.par_nil ?_
  | refine Go.cn' ?_
  | refine Go.two ?_
  | refine Go.nil ?_
  | refine Go.cons ?_
  | refine Go.tup ?_
  | refine Go.lst ?_
  | refine Go.lstR ?_
  | refine Go.tbl' ?_
  | refine Go.tblK' ?_
  | refine Go.ttr' ?_
  | refine Go.truB ?_
  | refine Go.truI ?_
  | refine Go.truN ?_
  | refine Go.and' ?_
  | refine Go.or' ?_
  | refine Go.not' ?_
  | refine Go.vOf' ?_
  | refine Go.vNot' ?_
  | refine Go.eIf' ?_
  | refine Go.ifT ?_
  | refine Go.ifF ?_
  | refine Go.ifN ?_
  | refine Go.add ?_
  | refine Go.sub' ?_
  | refine Go.lt ?_
  | refine Go.le ?_
  | refine Go.gt ?_
  | refine Go.ge ?_
  | refine Go.eqI ?_
  | refine Go.neI ?_
  | refine Go.is' ?_
  | refine Go.isNot' ?_
  | refine Go.chain ?_
  | refine Go.dB' ?_
  | refine Go.neg ?_
  | refine Go.neg' ?_
  | refine Go.abs' ?_
  | refine Go.lenT ?_
  | refine Go.lenL ?_
  | refine Go.max' ?_
  | refine Go.min' ?_
  | refine Go.intI ?_
  | refine Go.intB ?_
  | refine Go.tupL ?_
  | refine Go.tupT ?_
  | refine Go.isi ?_
  | refine Go.call ?_
  | refine Go.iVal' ?_
  | refine Go.iValT ?_
  | refine Go.iValL ?_
  | refine Go.r1 ?_
  | refine Go.r2 ?_
  | refine Go.star ?_
  | refine Go.l_cons ?_
  | refine Go.l_nil ?_
  | refine Go.enum' ?_
  | refine Go.rev' ?_
  | refine Go.zip' ?_
  | refine Go.wipe_nil ?_
  | refine Go.wipe_cons ?_
  | refine Go.iadd ?_
  | refine Go.sl ?_
  | refine Go.oN ?_
  | refine Go.oS ?_
  | refine Go.osK' ?_
  | refine Go.getL ?_
  | refine Go.lc ?_
  | refine Go.lcR ?_
  | refine Go.lg_nil ?_
  | refine Go.lg_cons ?_
  | refine Go.yes ?_
  | refine Go.for_nil ?_
  | refine Go.for_cons ?_
  | refine Go.revT ?_
  | refine Go.revL ?_
  | refine Go.zipT ?_
  | refine Go.zipL ?_
  | refine Go.tupK' rfl ?_
  | refine Go.lstK' rfl ?_
  | refine Go.callK' rfl rfl ?_
  | refine Go.lcL rfl ?_
  | refine Go.getLL' rfl ?_
  | refine Go.addT rfl ?_
  | (refine Go.gAsg ?_; first | refine Go.set0 ?_ | refine Go.set1 ?_ | refine Go.set2 ?_ | refine Go.set3 ?_ | refine Go.set4 ?_ | refine Go.set5 ?_ | refine Go.set6 ?_ | refine Go.set7 ?_ | refine Go.set8 ?_ | refine Go.set9 ?_ | refine Go.set10 ?_ | refine Go.set11 ?_ | refine Go.set12 ?_ | refine Go.set13 ?_ | refine Go.set14 ?_ | refine Go.set15 ?_ | refine Go.set16 ?_ | refine Go.set17 ?_ | refine Go.set18 ?_ | refine Go.set19 ?_ | refine Go.set20 ?_ | refine Go.set21 ?_ | refine Go.set22 ?_ | refine Go.set23 ?_ | refine Go.tp_cons ?_ | refine Go.tp_nil ?_)
  | (refine Go.gIxT ?_; first | refine Go.ixT0 ?_ | refine Go.ixT1 ?_ | refine Go.ixT2 ?_ | refine Go.ixT3 ?_ | refine Go.ixT4 ?_ | refine Go.ixT5 ?_ | refine Go.ixT6 ?_ | refine Go.ixT7 ?_)
  | (refine Go.gIxL ?_; first | refine Go.ixL0 ?_ | refine Go.ixL1 ?_ | refine Go.ixL2 ?_ | refine Go.ixL3 ?_ | refine Go.ixL4 ?_ | refine Go.ixL5 ?_ | refine Go.ixL6 ?_ | refine Go.ixL7 ?_)
  | (refine Go.gAug ?_; first | refine Go.aug0 ?_ | refine Go.aug1 ?_ | refine Go.aug2 ?_ | refine Go.aug3 ?_ | refine Go.aug4 ?_ | refine Go.aug5 ?_ | refine Go.aug6 ?_ | refine Go.aug7 ?_ | refine Go.aug8 ?_ | refine Go.aug9 ?_ | refine Go.aug10 ?_ | refine Go.aug11 ?_ | refine Go.aug12 ?_ | refine Go.aug13 ?_ | refine Go.aug14 ?_ | refine Go.aug15 ?_ | refine Go.aug16 ?_ | refine Go.aug17 ?_ | refine Go.aug18 ?_ | refine Go.aug19 ?_ | refine Go.aug20 ?_ | refine Go.aug21 ?_ | refine Go.aug22 ?_ | refine Go.aug23 ?_)
  | (refine Go.gStar ?_; first | refine Go.startup0 ?_ | refine Go.starlst0 ?_ | refine Go.startup1 ?_ | refine Go.starlst1 ?_ | refine Go.startup2 ?_ | refine Go.starlst2 ?_ | refine Go.startup3 ?_ | refine Go.starlst3 ?_ | refine Go.startup4 ?_ | refine Go.starlst4 ?_ | refine Go.startup_2 ?_ | refine Go.starlst_2 ?_ | refine Go.startup_3 ?_ | refine Go.starlst_3 ?_ | refine Go.startup_4 ?_ | refine Go.starlst_4 ?_)
  | refine Go.slfT1 ?_ | refine Go.sltT1 ?_ | refine Go.slfL1 ?_ | refine Go.sltL1 ?_ | refine Go.slfT2 ?_ | refine Go.sltT2 ?_ | refine Go.slfL2 ?_ | refine Go.sltL2 ?_ | refine Go.slfT3 ?_ | refine Go.sltT3 ?_ | refine Go.slfL3 ?_ | refine Go.sltL3 ?_ | refine Go.slfT4 ?_ | refine Go.sltT4 ?_ | refine Go.slfL4 ?_ | refine Go.sltL4 ?_
  | (refine Go.gUns ?_; first | refine Go.uns0 ?_ | refine Go.uns1 ?_ | refine Go.uns2 ?_ | refine Go.uns3 ?_ | refine Go.uns4 ?_ | refine Go.uns5 ?_ | refine Go.uns6 ?_ | refine Go.uns7 ?_ | refine Go.uns8 ?_ | refine Go.uns9 ?_ | refine Go.uns10 ?_ | refine Go.uns11 ?_ | refine Go.uns12 ?_ | refine Go.uns13 ?_ | refine Go.uns14 ?_ | refine Go.uns15 ?_ | refine Go.uns16 ?_ | refine Go.uns17 ?_ | refine Go.uns18 ?_ | refine Go.uns19 ?_ | refine Go.uns20 ?_ | refine Go.uns21 ?_ | refine Go.uns22 ?_ | refine Go.uns23 ?_)
  | refine Go.entup0 ?_ | refine Go.enlst0 ?_ | refine Go.entup1 ?_ | refine Go.enlst1 ?_ | refine Go.entup2 ?_ | refine Go.enlst2 ?_ | refine Go.entup3 ?_ | refine Go.enlst3 ?_ | refine Go.entup4 ?_ | refine Go.enlst4 ?_ | refine Go.entup5 ?_ | refine Go.enlst5 ?_ | refine Go.entup6 ?_ | refine Go.enlst6 ?_)))
local macro_rules | `(tactic| walk_at "bl1") => `(tactic| first | ((with_reducible refine Go.gEqS ?_); (first | refine Go.eqS (b := true) ⟨rfl, by decide +kernel⟩ ⟨rfl, by decide +kernel⟩ rfl ?_ | refine Go.eqS (b := false) ⟨rfl, by decide +kernel⟩ ⟨rfl, by decide +kernel⟩ rfl ?_)) | ((with_reducible refine Go.gNeS ?_); (first | refine Go.neS (b := true) ⟨rfl, by decide +kernel⟩ ⟨rfl, by decide +kernel⟩ rfl ?_ | refine Go.neS (b := false) ⟨rfl, by decide +kernel⟩ ⟨rfl, by decide +kernel⟩ rfl ?_)) | walk_at "bl0" | ((with_reducible refine Go.gAll ?_); (refine Go.allB (by rfl) ?_)) | ((with_reducible refine Go.gIxT ?_); (refine Go.ixT (by rfl) ?_)) | ((with_reducible refine Go.gIxL ?_); (refine Go.ixL (by rfl) ?_)))
local macro_rules | `(tactic| walk_at "bl") => `(tactic| (repeat walk_at "bl1"))
/-! ### the faces at a place: plain -/
theorem idx4 (P : R2) (f0 f1 f2 f3 : Fc) : idxF P 0 [f0, f1, f2, f3] = (if spokedR P f0 then [0] else []) ++ ((if spokedR P f1 then [1] else []) ++ ((if spokedR P f2 then [2] else []) ++ (if spokedR P f3 then [3] else []))) := by
  unfold idxF idxF idxF idxF idxF
  split <;> split <;> split <;> split <;> rfl
theorem no {p a : Prop} (h : p ↔ a) (n : ¬ a) : p ↔ false = true := ⟨fun z => absurd (h.mp z) n, fun z => by cases z⟩
theorem yes {p a : Prop} (h : p ↔ a) (y : a) : p ↔ true = true := ⟨fun _ => rfl, fun _ => h.mpr y⟩
theorem idx4_of {P : R2} {f0 f1 f2 f3 : Fc} (b0 b1 b2 b3 : Bool) (h0 : spokedR P f0 ↔ b0 = true) (h1 : spokedR P f1 ↔ b1 = true) (h2 : spokedR P f2 ↔ b2 = true) (h3 : spokedR P f3 ↔ b3 = true) : idxF P 0 [f0, f1, f2, f3] = (if b0 then [0] else []) ++ ((if b1 then [1] else []) ++ ((if b2 then [2] else []) ++ (if b3 then [3] else []))) := by
  rw [idx4]
  simp only [h0, h1, h2, h3]
theorem perm2 {a b : Int} {ns : List Int} (h : ns.Perm [a, b]) (s : ns.Pairwise (· ≤ ·)) (hab : a < b) : ns = [a, b] := by
  have hl := h.length_eq
  match ns, hl with
  | [x, y], _ =>
    have hx : x ∈ [a, b] := h.mem_iff.mp (List.mem_cons_self ..)
    have ha : a ∈ [x, y] := h.mem_iff.mpr (List.mem_cons_self ..)
    have hb : b ∈ [x, y] := h.mem_iff.mpr (List.mem_cons_of_mem _ (List.mem_cons_self ..))
    have xy : x ≤ y := (List.pairwise_cons.mp s).1 y (List.mem_cons_self ..)
    simp only [List.mem_cons, List.not_mem_nil, or_false] at hx ha hb
    have e1 : x = a := by omega
    have e2 : y = b := by omega
    rw [e1, e2]
/-- what the law finds by a straight piece -/
def OfC (n0 n1 n2 n3 : Int) (C t L : Rat) (ns : List Int) : Prop :=
  ((t < 0 ∨ (t = 0 ∧ C = 0)) ∧ ns = [n0]) ∨
  (¬ (t < 0 ∨ (t = 0 ∧ C = 0)) ∧ (L < t ∨ (t = L ∧ C = 0)) ∧ ns = [n2]) ∨
  (¬ (t < 0 ∨ (t = 0 ∧ C = 0)) ∧ ¬ (L < t ∨ (t = L ∧ C = 0)) ∧ ns.Perm ((if 0 < C then n1 else n3) :: ((if t = 0 then [n0] else []) ++ (if t = L then [n2] else []))) ∧ ns.Pairwise (· ≤ ·))
theorem Lay.nu0 {a b : P2} {P : R2} {G L : Int} {C t : Rat} (h : Lay a b P G L C t) : nrm (difR P a) = 0 ↔ C = 0 ∧ t = 0 := by
  have nu := h.nu
  have l0 := h.lr
  have s1 := sq_nonneg C
  have s2 := sq_nonneg t
  constructor
  · intro z
    rw [z, Rat.zero_mul] at nu
    have c0 : C * C = 0 := by grind
    have t0 : t * t = 0 := by grind
    exact ⟨(Rat.mul_eq_zero.mp c0).elim id id, (Rat.mul_eq_zero.mp t0).elim id id⟩
  · rintro ⟨rfl, rfl⟩
    have : nrm (difR P a) * L = 0 := by rw [← nu, Rat.zero_mul, Rat.add_zero]
    rcases Rat.mul_eq_zero.mp this with y | y
    · exact y
    · rw [y] at l0
      exact absurd l0 (by decide)
theorem Lay.nv0 {a b : P2} {P : R2} {G L : Int} {C t : Rat} (h : Lay a b P G L C t) : nrm (difR P b) = 0 ↔ C = 0 ∧ t = L := by
  have nv := h.nv
  have l0 := h.lr
  have s1 := sq_nonneg C
  have s2 := sq_nonneg (t - L)
  constructor
  · intro z
    rw [z, Rat.zero_mul] at nv
    have c0 : C * C = 0 := by grind
    have t0 : (t - L) * (t - L) = 0 := by grind
    have := (Rat.mul_eq_zero.mp t0).elim id id
    exact ⟨(Rat.mul_eq_zero.mp c0).elim id id, by grind⟩
  · rintro ⟨rfl, rfl⟩
    have : nrm (difR P b) * L = 0 := by rw [← nv, Rat.zero_mul, Rat.sub_self, Rat.zero_mul, Rat.add_zero]
    rcases Rat.mul_eq_zero.mp this with y | y
    · exact y
    · rw [y] at l0
      exact absurd l0 (by decide)
theorem cord_spokes {p q : P2} (hne : p ≠ q) {P : R2} {G L : Int} {C t : Rat} (h : Lay p q P G L C t) :
    (spokedR P (.side p q) ↔ 0 < C ∧ 0 ≤ t ∧ t ≤ L) ∧ (spokedR P (.round q 0 (outw p q) (outw q p)) ↔ ¬ (C = 0 ∧ t = L) ∧ (L : Rat) ≤ t) ∧ (spokedR P (.side q p) ↔ C < 0 ∧ 0 ≤ t ∧ t ≤ L) ∧ (spokedR P (.round p 0 (outw q p) (outw p q)) ↔ ¬ (C = 0 ∧ t = 0) ∧ t ≤ 0) := by
  obtain ⟨G', k⟩ := h.flip hne
  refine ⟨h.side, ?_, ?_, ?_⟩
  · rw [round0 (outw_ne hne), (neg_sign h.gr h.cb).1, (neg_sign k.gr k.ca).2, ← h.nv0]
    constructor
    · rintro ⟨a, b, c⟩
      exact ⟨a, by grind⟩
    · rintro ⟨a, b⟩
      exact ⟨a, by grind, by grind⟩
  · rw [k.side]
    constructor
    · rintro ⟨a, b, c⟩
      exact ⟨by grind, by grind, by grind⟩
    · rintro ⟨a, b, c⟩
      exact ⟨by grind, by grind, by grind⟩
  · rw [round0 (Ne.symm (outw_ne hne)), (neg_sign k.gr k.cb).1, (neg_sign h.gr h.ca).2, ← h.nu0]
    constructor
    · rintro ⟨a, b, c⟩
      exact ⟨a, by grind⟩
    · rintro ⟨a, b⟩
      exact ⟨a, by grind, by grind⟩
theorem bow_spokes {c p q : P2} (h : BowOk c p q) {P : R2} {R E1 E2 x y X Y : Rat} {G L : Int} {C t : Rat} (b : BL c p q P R E1 E2 x y X Y G L C t) :
    (spokedR P (.round c (isq (far c p).toNat) (low (dif p c)) (low (dif q c))) ↔ R < nrm (difR P c) ∧ Y ≤ 0 ∧ y ≤ 0) ∧
    (spokedR P (.round q 0 (low (dif q c)) (outw q p)) ↔ ¬ (C = 0 ∧ t = 0) ∧ 0 ≤ y ∧ t ≤ 0) ∧
    (spokedR P (.side q p) ↔ 0 < C ∧ 0 ≤ t ∧ t ≤ L) ∧
    (spokedR P (.round p 0 (outw q p) (low (dif p c))) ↔ ¬ (C = 0 ∧ t = L) ∧ (L : Rat) ≤ t ∧ 0 ≤ Y) := by
  have l0 := b.lay.lr
  have np := BowOk.np h
  have a0 : dif p c ≠ (0, 0) := dif_ne np.1
  have b0 : dif q c ≠ (0, 0) := dif_ne np.2
  have eq : dot (dif p c) (dif p c) = dot (dif q c) (dif q c) := by
    have := h.eq
    rw [far_comm c p, far_comm c q] at this
    exact this
  have hne' : dif p c ≠ dif q c := fun z => h.ne (by
    have h1 := congrArg Prod.fst z
    have h2 := congrArg Prod.snd z
    unfold dif at h1 h2
    exact Prod.ext (by dsimp only at h1; omega) (by dsimp only at h2; omega))
  have rr : ((isq (far c p).toNat : Int) * isq (far c p).toNat : Int) = dot (dif p c) (dif p c) := by
    rw [h.wr.isq, far_comm]
    rfl
  have rr2 : far c p = dot (dif p c) (dif p c) := by rw [far_comm]; rfl
  -- what is near is not straight out of the side
  have ab : dot (dif p c) (dif p q) ≠ 0 ∧ dot (dif q c) (dif p q) ≠ 0 := by
    have lp : 0 < dot (dif p q) (dif p q) := dot_pos (dif_ne h.ne)
    have dd : dif p q = ((dif p c).1 - (dif q c).1, (dif p c).2 - (dif q c).2) := by
      unfold dif
      exact Prod.ext (by dsimp only; omega) (by dsimp only; omega)
    have i1 : dot (dif p q) (dif p q) = 2 * dot (dif p c) (dif p q) := by
      rw [dd]
      unfold Lb.dot at *
      dsimp only
      grind
    have i2 : dot (dif p q) (dif p q) = - (2 * dot (dif q c) (dif p q)) := by
      rw [dd]
      unfold Lb.dot at *
      dsimp only
      grind
    exact ⟨by omega, by omega⟩
  have s0 : spokedR P (.round c (isq (far c p).toNat) (low (dif p c)) (low (dif q c))) ↔ R < nrm (difR P c) ∧ Y ≤ 0 ∧ y ≤ 0 := by
    show (¬ nrm (difR P c) ≤ ((isq (far c p).toNat * isq (far c p).toNat : Int) : Rat) ∧ (low (dif p c) = low (dif q c) ∨ (crsR (difR P c) (low (dif p c)) ≤ 0 ∧ 0 ≤ crsR (difR P c) (low (dif q c))))) ↔ _
    rw [rr, ← b.eR, (crsR_low a0 _).1, (crsR_low b0 _).2, Rat.not_le, b.ey, b.eY]
    constructor
    · rintro ⟨h1, h2⟩
      obtain ⟨h3, h4⟩ := h2.resolve_left (low_ne a0 b0 eq hne')
      exact ⟨h1, h3, by grind⟩
    · rintro ⟨h1, h3, h4⟩
      exact ⟨h1, .inr ⟨h3, by grind⟩⟩
  have sq : spokedR P (.round q 0 (low (dif q c)) (outw q p)) ↔ ¬ (C = 0 ∧ t = 0) ∧ 0 ≤ y ∧ t ≤ 0 := by
    rw [← b.lay.nu0, round0 (low_outw b0 (Ne.symm h.ne) ab.2), (crsR_low b0 _).1, crsR_shift, (neg_sign b.lay.gr b.lay.ca).2, b.ey]
    constructor
    · rintro ⟨h1, h2, h3⟩
      exact ⟨h1, by grind, by grind⟩
    · rintro ⟨h1, h2, h3⟩
      exact ⟨h1, by grind, by grind⟩
  have sp : spokedR P (.round p 0 (outw q p) (low (dif p c))) ↔ ¬ (C = 0 ∧ t = L) ∧ (L : Rat) ≤ t ∧ 0 ≤ Y := by
    rw [← b.lay.nv0, round0 (Ne.symm (low_outw a0 (Ne.symm h.ne) ab.1)), (crsR_low a0 _).2, crsR_shift, (neg_sign b.lay.gr b.lay.cb).1, b.eY]
    constructor
    · rintro ⟨h1, h2, h3⟩
      exact ⟨h1, by grind, h3⟩
    · rintro ⟨h1, h2, h3⟩
      exact ⟨h1, by grind, h3⟩
  exact ⟨s0, sq, b.lay.side, sp⟩
section
variable {R E1 E2 x y X Y C t L U : Rat}
theorem key_b' (hR : 0 < R) (h1 : E1 < 0) (h2 : E2 ≤ 0) (eC : R * C = x * E2 - y * E1) (et : R * t = x * E1 + y * E2) (hy : 0 < y) (ht : 0 ≤ t) (hC : C ≤ 0) : False := by
  have a1 : 0 < -(y * E1) := by
    have := Rat.mul_pos hy (show 0 < -E1 by grind)
    grind
  have a2 : 0 ≤ -(y * E2) := by
    have := Rat.mul_nonneg (Rat.le_of_lt hy) (show 0 ≤ -E2 by grind)
    grind
  have a3 := Rat.mul_nonneg (Rat.le_of_lt hR) ht
  have x0 : x ≤ 0 := by
    rw [← Rat.not_lt]
    intro z
    have := Rat.mul_pos z (show 0 < -E1 by grind)
    grind
  have a4 : 0 ≤ x * E2 := by
    have := Rat.mul_nonneg (show 0 ≤ -x by grind) (show 0 ≤ -E2 by grind)
    grind
  have a5 : R * C ≤ 0 := by
    have := Rat.mul_nonneg (Rat.le_of_lt hR) (show 0 ≤ -C by grind)
    grind
  grind
end
theorem faces_bow_off {c p q : P2} (h : BowOk c p q) {P : R2} {R E1 E2 x y X Y : Rat} {G L : Int} {C t : Rat} (b : BL c p q P R E1 E2 x y X Y G L C t) (off : ¬ (nrm (difR P c) ≤ R ∧ C ≤ 0)) (hs : ¬ (Y ≤ 0 ∧ y ≤ 0 ∧ R < nrm (difR P c))) {ns : List Int} (o : OfC 1 2 3 9 C t L ns) : idxF P 0 (facesL (.bow c p q)) = ns := by
  obtain ⟨s0, s1, s2, s3⟩ := bow_spokes h b
  have l0 := b.lay.lr
  have hn := b.u1
  have hn2 := b.u2
  have zq : ¬ (C = 0 ∧ t = 0) := fun z => by
    have n0 := b.lay.nu0.mpr z
    have e1 := b.t1
    have e2 := b.c1
    rw [z.1] at e2
    rw [z.2] at e1
    have e3 : x * (E1 * E1 + E2 * E2) = 0 := by grind
    have : x = 0 := by
      rcases Rat.mul_eq_zero.mp e3 with w | w
      · exact w
      · have := Rat.mul_pos (show 0 < -E1 by have := b.e1; grind) (show 0 < -E1 by have := b.e1; grind)
        have := sq_nonneg E2
        grind
    exact off ⟨by grind, by grind⟩
  have zp : ¬ (C = 0 ∧ t = L) := fun z => by
    have n0 := b.lay.nv0.mpr z
    have e1 := b.t2
    have e2 := b.c2
    rw [z.1] at e2
    rw [z.2] at e1
    have e3 : X * (E1 * E1 + E2 * E2) = 0 := by grind
    have : X = 0 := by
      rcases Rat.mul_eq_zero.mp e3 with w | w
      · exact w
      · have := Rat.mul_pos (show 0 < -E1 by have := b.e1; grind) (show 0 < -E1 by have := b.e1; grind)
        have := sq_nonneg E2
        grind
    exact off ⟨by grind, by grind⟩
  have kb1 := fun z1 z2 z3 => key_b' (y := y) (t := t) (C := C) (x := x) b.r0 b.e1 b.e2 b.c1 b.t1 z1 z2 z3
  have kb2 := fun z1 z2 z3 => key_b' (y := Y) (t := L - t) (C := C) (x := X) b.r0 b.e1 b.e2 b.c2 b.t2 z1 z2 z3
  have ka1 := fun z1 z2 z3 => key_a (y := y) (t := t) (C := C) (x := x) b.r0 b.e1 b.e2 b.c1 b.t1 z1 z2 z3
  have ka2 := fun z1 z2 z3 => key_a (y := Y) (t := L - t) (C := C) (x := X) b.r0 b.e1 b.e2 b.c2 b.t2 z1 z2 z3
  have far : C ≤ 0 → R < nrm (difR P c) := fun z => Rat.not_le.mp fun w => off ⟨w, z⟩
  -- where the side is not looked out of
  have low : C ≤ 0 → t < 0 ∨ (L : Rat) < t := fun z => by
    by_cases y0 : 0 < y
    · left
      rw [← Rat.not_le]
      exact fun w => kb1 y0 w z
    by_cases Y0 : 0 < Y
    · right
      rw [← Rat.not_le]
      exact fun w => kb2 Y0 (by grind) z
    · exact absurd ⟨Rat.not_lt.mp Y0, Rat.not_lt.mp y0, far z⟩ hs
  have yq : t ≤ 0 → 0 ≤ y := fun z => by
    rw [← Rat.not_lt]
    intro w
    by_cases hC : 0 < C
    · exact ka1 w z hC
    · have hC := Rat.not_lt.mp hC
      by_cases Y0 : 0 < Y
      · exact kb2 Y0 (by grind) hC
      · exact hs ⟨Rat.not_lt.mp Y0, Rat.le_of_lt w, far hC⟩
  have yp : (L : Rat) ≤ t → 0 ≤ Y := fun z => by
    rw [← Rat.not_lt]
    intro w
    by_cases hC : 0 < C
    · exact ka2 w (by grind) hC
    · have hC := Rat.not_lt.mp hC
      by_cases y0 : 0 < y
      · exact kb1 y0 (by grind) hC
      · exact hs ⟨Rat.le_of_lt w, Rat.not_lt.mp y0, far hC⟩
  have n0 : ¬ (R < nrm (difR P c) ∧ Y ≤ 0 ∧ y ≤ 0) := fun z => hs ⟨z.2.1, z.2.2, z.1⟩
  clear kb1 kb2 ka1 ka2 far hn hn2 off hs
  unfold facesL
  rcases o with ⟨z, rfl⟩ | ⟨v, z, rfl⟩ | ⟨v, z, pm, so⟩
  · have t0 : t < 0 := by grind
    have := yq (Rat.le_of_lt t0)
    rw [idx4_of false true false false (no s0 n0) (yes s1 (by grind)) (no s2 (by grind)) (no s3 (by grind))]
    rfl
  · have t0 : (L : Rat) < t := by grind
    have := yp (Rat.le_of_lt t0)
    rw [idx4_of false false false true (no s0 n0) (no s1 (by grind)) (no s2 (by grind)) (yes s3 (by grind))]
    rfl
  · have t0 : 0 ≤ t := by grind
    have t1 : t ≤ L := by grind
    have hC : 0 < C := Rat.not_le.mp fun w => by rcases low w with r | r <;> grind
    rw [if_pos hC] at pm
    by_cases h1 : t = 0
    · have := yq (by grind)
      rw [if_pos h1, if_neg (by grind)] at pm
      rw [idx4_of false true true false (no s0 n0) (yes s1 (by grind)) (yes s2 (by grind)) (no s3 (by grind))]
      exact (perm2 (pm.trans (.swap ..)) so (by decide)).symm
    rw [if_neg h1] at pm
    by_cases h2 : t = L
    · have := yp (by grind)
      rw [if_pos h2] at pm
      rw [idx4_of false false true true (no s0 n0) (no s1 (by grind)) (yes s2 (by grind)) (yes s3 (by grind))]
      exact (perm2 pm so (by decide)).symm
    · rw [if_neg h2] at pm
      rw [idx4_of false false true false (no s0 n0) (no s1 (by grind)) (yes s2 (by grind)) (no s3 (by grind))]
      exact (List.perm_singleton.mp pm).symm
end Ld

/-! the plane in real numbers: things as sets, what lies behind a face, feet -/
namespace Rs
open Lb Ld Rl
abbrev o (i : Int) : Real := Real.of ((i : Int) : Rat)
theorem o_add (i j : Int) : o (i + j) = o i + o j := ofI_add i j
theorem o_sub (i j : Int) : o (i - j) = o i - o j := of_int_sub i j
theorem o_mul (i j : Int) : o (i * j) = o i * o j := of_int_mul i j
theorem o_le {i j : Int} : o i ≤ o j ↔ i ≤ j := ofI_le
theorem o_0 : o 0 = 0 := of_int0
theorem o_1 : o 1 = 1 := of_int1
theorem o_nn {i : Int} (h : 0 ≤ i) : 0 ≤ o i := by rw [← o_0, o_le]; exact h
theorem o_pos {i : Int} (h : 0 < i) : 0 < o i := int_pos.mpr h
/-- what belongs to a thing -/
def InS : Th → Real → Real → Prop
  | .spot p, x, y => x = o p.1 ∧ y = o p.2
  | .cord p q, x, y => ∃ s : Real, 0 ≤ s ∧ s ≤ 1 ∧ x = o p.1 + s * (o q.1 - o p.1) ∧ y = o p.2 + s * (o q.2 - o p.2)
  | .bow c p q, x, y => (x - o c.1) * (x - o c.1) + (y - o c.2) * (y - o c.2) ≤ o (far c p) ∧ (o q.1 - o p.1) * (y - o p.2) - (o q.2 - o p.2) * (x - o p.1) ≤ 0
def coneR (f l : P2) (u v : Real) : Prop := f = l ∨ (0 ≤ o f.1 * v - o f.2 * u ∧ 0 ≤ u * o l.2 - v * o l.1)
theorem nn_or (a : Real) : 0 ≤ a ∨ a ≤ 0 := by
  rcases Real.tri' a 0 with z | z | z
  · right; grind
  · left; grind
  · left; grind
theorem cauchy {x y u v r n : Real} (hr : 0 ≤ r) (hn : 0 ≤ n) (h : x * x + y * y ≤ r * r) (hn2 : n * n = u * u + v * v) : x * u + y * v ≤ r * n := by
  have rn := mul_nn' hr hn
  rcases nn_or (x * u + y * v) with d | d
  · refine ge_of_sq rn d ?_
    have a := mul_nn' (show 0 ≤ r * r - (x * x + y * y) by grind) (show 0 ≤ n * n from Real.sq_nn n)
    have b := Real.sq_nn (x * v - y * u)
    have e : (x * u + y * v) * (x * u + y * v) = (x * x + y * y) * (u * u + v * v) - (x * v - y * u) * (x * v - y * u) := by grind
    rw [e, ← hn2]
    grind
  · grind
/-- what may be left out on both sides -/
theorem le_of_mul {a b c : Real} (hc : 0 < c) (h : a * c ≤ b * c) : a ≤ b := by
  rcases Real.tri' b a with z | z | z
  · have := Real.mul_pos (show 0 < a - b by grind) hc
    grind
  · grind
  · grind
theorem eq_of_mul {a b c : Real} (hc : 0 < c) (h : a * c = b * c) : a = b := by
  rcases Real.tri' a b with z | z | z
  · have := Real.mul_pos (show 0 < b - a by grind) hc
    grind
  · exact z
  · have := Real.mul_pos (show 0 < a - b by grind) hc
    grind
/-- the side of a bow's chord, as its outward direction tells -/
theorem out_rel {a b : P2} (hne : a ≠ b) : ∃ G : Real, 0 < G ∧ o b.2 - o a.2 = G * o (outw a b).1 ∧ o a.1 - o b.1 = G * o (outw a b).2 := by
  obtain ⟨G, g0, e1, e2⟩ := side_rel hne
  refine ⟨o G, o_pos g0, ?_, ?_⟩
  · rw [← o_sub, ← o_mul, ← e1]; rfl
  · rw [← o_sub, ← o_mul, ← e2, show a.1 - b.1 = 0 - (dif b a).1 by unfold dif; dsimp only; omega]
theorem low_rel {a : P2} (h : a ≠ (0, 0)) : ∃ g : Real, 0 < g ∧ o a.1 = g * o (low a).1 ∧ o a.2 = g * o (low a).2 := by
  obtain ⟨g, g0, e1, e2⟩ := low_dir h
  exact ⟨o g, o_pos g0, by rw [← o_mul, ← e1], by rw [← o_mul, ← e2]⟩
/-- a bow in real numbers, its centre taken off -/
structure Bw (c p q : P2) (a b d e R r : Real) : Prop where
  ea : o p.1 - o c.1 = a
  eb : o p.2 - o c.2 = b
  ed : o q.1 - o c.1 = d
  ee : o q.2 - o c.2 = e
  eR : o (far c p) = R
  hp : a * a + b * b = R
  hq : d * d + e * e = R
  er : o (isq (far c p).toNat : Int) = r
  r0 : 0 < r
  rr : r * r = R
  tn : 0 ≤ a * e - b * d
  R0 : 0 < R
  ne : 0 < R - (a * d + b * e)
theorem bw_of {c p q : P2} (h : BowOk c p q) : ∃ a b d e R r, Bw c p q a b d e R r := by
  obtain ⟨np, nq⟩ := h.np
  have f1 : o (far c p) = (o p.1 - o c.1) * (o p.1 - o c.1) + (o p.2 - o c.2) * (o p.2 - o c.2) := by
    rw [far_eq, o_add, o_mul, o_mul, o_sub, o_sub]; grind
  have f2 : o (far c q) = (o q.1 - o c.1) * (o q.1 - o c.1) + (o q.2 - o c.2) * (o q.2 - o c.2) := by
    rw [far_eq, o_add, o_mul, o_mul, o_sub, o_sub]; grind
  have f3 : o (far p q) = (o p.1 - o q.1) * (o p.1 - o q.1) + (o p.2 - o q.2) * (o p.2 - o q.2) := by
    rw [far_eq, o_add, o_mul, o_mul, o_sub, o_sub]
  have d3 : 0 < far p q := by
    have := far_nonneg p q
    have : far p q ≠ 0 := fun z => h.ne (far_zero z)
    omega
  have d1 : 0 < far c p := by
    have := far_nonneg c p
    have : far c p ≠ 0 := fun z => np (far_zero z).symm
    omega
  obtain ⟨r, r0, rr⟩ := h.wr
  have ri : (isq (far c p).toNat : Int) = r := by
    obtain ⟨m, rfl⟩ := Int.eq_ofNat_of_zero_le r0
    rw [rr, show ((m : Int) * (m : Int)).toNat = m * m by rw [← Int.natCast_mul, Int.toNat_natCast], isq_sq]
  have rp : 0 < r := by
    rcases Int.lt_or_le 0 r with z | z
    · exact z
    · have : r = 0 := by omega
      rw [this] at rr
      omega
  have tn := o_nn h.tn
  unfold crs dif at tn
  dsimp only at tn
  rw [o_sub, o_mul, o_mul, o_sub, o_sub, o_sub, o_sub] at tn
  have e2 := congrArg o h.eq
  have dp := o_pos d3
  have dc := o_pos d1
  have rR := congrArg o rr
  rw [o_mul] at rR
  exact ⟨_, _, _, _, _, _, rfl, rfl, rfl, rfl, rfl, f1.symm, by rw [e2]; exact f2.symm, rfl, by rw [ri]; exact o_pos rp, by rw [ri]; exact rR.symm, tn, dc, by grind⟩
end Rs

namespace Rs
open Lb Ld Rl
theorem coneR_ne {f l : P2} {u v : Real} (h : coneR f l u v) (ne : f ≠ l) : 0 ≤ o f.1 * v - o f.2 * u ∧ 0 ≤ u * o l.2 - v * o l.1 := h.resolve_left ne
theorem nn_mul {a g : Real} (hg : 0 < g) (h : 0 ≤ a) : 0 ≤ g * a := mul_nn' (by grind) h
/-- the chord's ends seen from the centre are unlike directions -/
theorem bow_ne {c p q : P2} (h : BowOk c p q) : low (dif p c) ≠ low (dif q c) ∧ low (dif q c) ≠ outw q p ∧ outw q p ≠ low (dif p c) := by
  obtain ⟨np, nq⟩ := h.np
  obtain ⟨a, b, d, e, R, r, w⟩ := bw_of h
  have dp : dif p c ≠ (0, 0) := dif_ne np
  have dq : dif q c ≠ (0, 0) := dif_ne nq
  have eq : dot (dif p c) (dif p c) = dot (dif q c) (dif q c) := by
    have := h.eq
    unfold far at this
    unfold dif dot at *
    dsimp only at *
    grind
  have od : ∀ m : P2, (∃ e : Int, e = dot (dif m c) (dif p q)) → True := fun _ _ => trivial
  have h1 : o (dot (dif q c) (dif p q)) = d * (a - d) + e * (b - e) := by
    unfold dot dif
    dsimp only
    rw [o_add, o_mul, o_mul, o_sub, o_sub, o_sub, o_sub, ← w.ea, ← w.eb, ← w.ed, ← w.ee]
    grind
  have h2 : o (dot (dif p c) (dif p q)) = a * (a - d) + b * (b - e) := by
    unfold dot dif
    dsimp only
    rw [o_add, o_mul, o_mul, o_sub, o_sub, o_sub, o_sub, ← w.ea, ← w.eb, ← w.ed, ← w.ee]
    grind
  refine ⟨low_ne dp dq eq (fun z => h.ne ?_), low_outw dq (Ne.symm h.ne) fun z => ?_, fun z => low_outw dp (Ne.symm h.ne) (fun z => ?_) z.symm⟩
  · unfold dif at z
    have z1 := congrArg Prod.fst z
    have z2 := congrArg Prod.snd z
    dsimp only at z1 z2
    exact Prod.ext (by omega) (by omega)
  · rw [z, o_0] at h1
    have := w.ne
    have := w.hq
    grind
  · rw [z, o_0] at h2
    have := w.ne
    have := w.hp
    grind
theorem sup_bow {c p q : P2} {a b d e R r x y u v : Real} (w : Bw c p q a b d e R r) (h1 : x * x + y * y ≤ R) (h2 : (d - a) * (y - b) - (e - b) * (x - a) ≤ 0) :
    (0 ≤ d * v - e * u → 0 ≤ u * (d - a) - v * (b - e) → (x - d) * u + (y - e) * v ≤ 0) ∧ (0 ≤ (b - e) * v - (d - a) * u → 0 ≤ u * b - v * a → (x - a) * u + (y - b) * v ≤ 0) := by
  have hp := w.hp
  have hq := w.hq
  have s1 := Real.sq_nn (x - d)
  have s2 := Real.sq_nn (y - e)
  have s3 := Real.sq_nn (x - a)
  have s4 := Real.sq_nn (y - b)
  have ne := w.ne
  constructor
  · intro c1 c2
    have k1 : 0 ≤ -((x - d) * d + (y - e) * e) := by grind
    have k2 : 0 ≤ -((x - d) * (b - e) + (y - e) * (d - a)) := by grind
    have m1 := mul_nn' c2 k1
    have m2 := mul_nn' c1 k2
    refine le_of_mul ne ?_
    have e1 : ((x - d) * u + (y - e) * v) * (R - (a * d + b * e)) = (u * (d - a) - v * (b - e)) * ((x - d) * d + (y - e) * e) + (d * v - e * u) * ((x - d) * (b - e) + (y - e) * (d - a)) := by
      rw [← hq]; grind
    rw [e1]
    grind
  · intro c1 c2
    have k1 : 0 ≤ -((x - a) * a + (y - b) * b) := by grind
    have k2 : 0 ≤ -((x - a) * (b - e) + (y - b) * (d - a)) := by grind
    have m1 := mul_nn' c1 k1
    have m2 := mul_nn' c2 k2
    refine le_of_mul ne ?_
    have e1 : ((x - a) * u + (y - b) * v) * (R - (a * d + b * e)) = ((b - e) * v - (d - a) * u) * ((x - a) * a + (y - b) * b) + (u * b - v * a) * ((x - a) * (b - e) + (y - b) * (d - a)) := by
      rw [← hp]; grind
    rw [e1]
    grind
theorem bow_in {c p q : P2} {a b d e R r x y : Real} (w : Bw c p q a b d e R r) : InS (.bow c p q) x y ↔ (x - o c.1) * (x - o c.1) + (y - o c.2) * (y - o c.2) ≤ R ∧ (d - a) * ((y - o c.2) - b) - (e - b) * ((x - o c.1) - a) ≤ 0 := by
  show (x - o c.1) * (x - o c.1) + (y - o c.2) * (y - o c.2) ≤ o (far c p) ∧ (o q.1 - o p.1) * (y - o p.2) - (o q.2 - o p.2) * (x - o p.1) ≤ 0 ↔ _
  rw [w.eR, ← w.ea, ← w.eb, ← w.ed, ← w.ee]
  have e1 : (o q.1 - o c.1 - (o p.1 - o c.1)) * (y - o c.2 - (o p.2 - o c.2)) - (o q.2 - o c.2 - (o p.2 - o c.2)) * (x - o c.1 - (o p.1 - o c.1)) = (o q.1 - o p.1) * (y - o p.2) - (o q.2 - o p.2) * (x - o p.1) := by grind
  rw [e1]
theorem sup_round {T : Th} (hT : GoodTh T) {c f l : P2} {r : Int} (hf : Fc.round c r f l ∈ facesL T) {u v n x y : Real} (hn : 0 ≤ n) (h2 : n * n = u * u + v * v) (hc : coneR f l u v) (hx : InS T x y) : (x - o c.1) * u + (y - o c.2) * v ≤ o r * n := by
  cases T with
  | spot p =>
    simp only [facesL, List.mem_cons, List.not_mem_nil, or_false, Fc.round.injEq] at hf
    obtain ⟨rfl, rfl, rfl, rfl⟩ := hf
    obtain ⟨rfl, rfl⟩ := hx
    rw [o_0]
    grind
  | cord p q =>
    have hne := hT.2.2.1
    simp only [facesL, List.mem_cons, List.not_mem_nil, or_false, Fc.round.injEq, reduceCtorEq, false_or] at hf
    obtain ⟨s, s0, s1, rfl, rfl⟩ := hx
    rcases hf with ⟨rfl, rfl, rfl, rfl⟩ | ⟨rfl, rfl, rfl, rfl⟩
    · obtain ⟨G, g0, g1, g2⟩ := out_rel hne
      obtain ⟨c1, _⟩ := coneR_ne hc (outw_ne hne)
      have k := nn_mul g0 c1
      have e1 : G * (o (outw p c).1 * v - o (outw p c).2 * u) = (o c.2 - o p.2) * v + (o c.1 - o p.1) * u := by
        have : G * (o (outw p c).1 * v - o (outw p c).2 * u) = (G * o (outw p c).1) * v - (G * o (outw p c).2) * u := by grind
        rw [this, ← g1, ← g2]; grind
      rw [e1] at k
      have m := mul_nn' (show 0 ≤ 1 - s by grind) k
      rw [o_0]
      grind
    · obtain ⟨G, g0, g1, g2⟩ := out_rel (Ne.symm hne)
      obtain ⟨c1, _⟩ := coneR_ne hc (outw_ne (Ne.symm hne))
      have k := nn_mul g0 c1
      have e1 : G * (o (outw q c).1 * v - o (outw q c).2 * u) = -((o q.2 - o c.2) * v + (o q.1 - o c.1) * u) := by
        have : G * (o (outw q c).1 * v - o (outw q c).2 * u) = (G * o (outw q c).1) * v - (G * o (outw q c).2) * u := by grind
        rw [this, ← g1, ← g2]; grind
      rw [e1] at k
      have m := mul_nn' s0 k
      rw [o_0]
      grind
  | bow k p q =>
    have hb := hT.2.2.2
    obtain ⟨a, b, d, e, R, ρ, w⟩ := bw_of hb
    obtain ⟨n1, n2, n3⟩ := bow_ne hb
    obtain ⟨x1, x2⟩ := (bow_in w).mp hx
    obtain ⟨np, nq⟩ := hb.np
    obtain ⟨g, g0, g1, g2⟩ := low_rel (dif_ne np)
    obtain ⟨g', g0', g1', g2'⟩ := low_rel (dif_ne nq)
    obtain ⟨G, G0, G1, G2⟩ := out_rel (Ne.symm hb.ne)
    have d1 : o (dif p k).1 = a := by unfold dif; rw [o_sub]; exact w.ea
    have d2 : o (dif p k).2 = b := by unfold dif; rw [o_sub]; exact w.eb
    have d3 : o (dif q k).1 = d := by unfold dif; rw [o_sub]; exact w.ed
    have d4 : o (dif q k).2 = e := by unfold dif; rw [o_sub]; exact w.ee
    rw [d1] at g1
    rw [d2] at g2
    rw [d3] at g1'
    rw [d4] at g2'
    have G1' : b - e = G * o (outw q p).1 := by rw [← G1, ← w.eb, ← w.ee]; grind
    have G2' : d - a = G * o (outw q p).2 := by rw [← G2, ← w.ea, ← w.ed]; grind
    simp only [facesL, List.mem_cons, List.not_mem_nil, or_false, Fc.round.injEq, reduceCtorEq, false_or] at hf
    rcases hf with ⟨rfl, rfl, rfl, rfl⟩ | ⟨rfl, rfl, rfl, rfl⟩ | ⟨rfl, rfl, rfl, rfl⟩
    · rw [w.er]
      exact cauchy (by have := w.r0; grind) hn (by rw [w.rr]; exact x1) h2
    · obtain ⟨c1, c2⟩ := coneR_ne hc n2
      have k1 : 0 ≤ d * v - e * u := by
        have := nn_mul g0' c1
        rw [g1', g2']; grind
      have k2 : 0 ≤ u * (d - a) - v * (b - e) := by
        have := nn_mul G0 c2
        rw [G1', G2']; grind
      have z := (sup_bow (u := u) (v := v) w x1 x2).1 k1 k2
      have e1 : x - o c.1 = x - o k.1 - d := by rw [← w.ed]; grind
      have e2 : y - o c.2 = y - o k.2 - e := by rw [← w.ee]; grind
      rw [o_0, e1, e2, show (0 : Real) * n = 0 by grind]
      exact z
    · obtain ⟨c1, c2⟩ := coneR_ne hc n3
      have k1 : 0 ≤ (b - e) * v - (d - a) * u := by
        have := nn_mul G0 c1
        rw [G1', G2']; grind
      have k2 : 0 ≤ u * b - v * a := by
        have := nn_mul g0 c2
        rw [g1, g2]; grind
      have z := (sup_bow (u := u) (v := v) w x1 x2).2 k1 k2
      have e1 : x - o c.1 = x - o k.1 - a := by rw [← w.ea]; grind
      have e2 : y - o c.2 = y - o k.2 - b := by rw [← w.eb]; grind
      rw [o_0, e1, e2, show (0 : Real) * n = 0 by grind]
      exact z
/-- the sides: nothing lies out of them -/
theorem sup_side {T : Th} (hT : GoodTh T) {a b : P2} (hf : Fc.side a b ∈ facesL T) {x y : Real} (hx : InS T x y) : (x - o a.1) * o (outw a b).1 + (y - o a.2) * o (outw a b).2 ≤ 0 := by
  cases T with
  | spot p => simp [facesL] at hf
  | cord p q =>
    have hne := hT.2.2.1
    simp only [facesL, List.mem_cons, List.not_mem_nil, or_false, Fc.side.injEq, reduceCtorEq, false_or] at hf
    obtain ⟨s, s0, s1, rfl, rfl⟩ := hx
    rcases hf with ⟨rfl, rfl⟩ | ⟨rfl, rfl⟩
    · obtain ⟨G, g0, g1, g2⟩ := out_rel hne
      refine le_of_mul g0 ?_
      have e : (s * (o b.1 - o a.1)) * (G * o (outw a b).1) + (s * (o b.2 - o a.2)) * (G * o (outw a b).2) = 0 := by rw [← g1, ← g2]; grind
      grind
    · obtain ⟨G, g0, g1, g2⟩ := out_rel (Ne.symm hne)
      refine le_of_mul g0 ?_
      have e : ((1 - s) * (o b.1 - o a.1)) * (G * o (outw a b).1) + ((1 - s) * (o b.2 - o a.2)) * (G * o (outw a b).2) = 0 := by rw [← g1, ← g2]; grind
      grind
  | bow k p q =>
    have hb := hT.2.2.2
    obtain ⟨a', b', d, e, R, ρ, w⟩ := bw_of hb
    obtain ⟨x1, x2⟩ := (bow_in w).mp hx
    simp only [facesL, List.mem_cons, List.not_mem_nil, or_false, Fc.side.injEq, reduceCtorEq, false_or] at hf
    obtain ⟨rfl, rfl⟩ := hf
    obtain ⟨G, G0, G1, G2⟩ := out_rel (Ne.symm hb.ne)
    refine le_of_mul G0 ?_
    have e1 : x - o a.1 = x - o k.1 - d := by rw [← w.ed]; grind
    have e2 : y - o a.2 = y - o k.2 - e := by rw [← w.ee]; grind
    have e3 : ((x - o k.1 - d) * o (outw a b).1 + (y - o k.2 - e) * o (outw a b).2) * G = (x - o k.1 - d) * (b' - e) + (y - o k.2 - e) * (d - a') := by
      have h1 : b' - e = G * o (outw a b).1 := by rw [← G1, ← w.eb, ← w.ee]; grind
      have h2 : d - a' = G * o (outw a b).2 := by rw [← G2, ← w.ea, ← w.ed]; grind
      rw [h1, h2]; grind
    rw [e1, e2, e3]
    grind
theorem foot_side {T : Th} (hT : GoodTh T) {a b : P2} (hf : Fc.side a b ∈ facesL T) {s : Real} (s0 : 0 ≤ s) (s1 : s ≤ 1) : InS T (o a.1 + s * (o b.1 - o a.1)) (o a.2 + s * (o b.2 - o a.2)) := by
  cases T with
  | spot p => simp [facesL] at hf
  | cord p q =>
    simp only [facesL, List.mem_cons, List.not_mem_nil, or_false, Fc.side.injEq, reduceCtorEq, false_or] at hf
    rcases hf with ⟨rfl, rfl⟩ | ⟨rfl, rfl⟩
    · exact ⟨s, s0, s1, rfl, rfl⟩
    · exact ⟨1 - s, by grind, by grind, by grind, by grind⟩
  | bow k p q =>
    have hb := hT.2.2.2
    obtain ⟨a', b', d, e, R, ρ, w⟩ := bw_of hb
    simp only [facesL, List.mem_cons, List.not_mem_nil, or_false, Fc.side.injEq, reduceCtorEq, false_or] at hf
    obtain ⟨rfl, rfl⟩ := hf
    refine (bow_in w).mpr ?_
    have e1 : o a.1 + s * (o b.1 - o a.1) - o k.1 = d + s * (a' - d) := by rw [← w.ed, ← w.ea]; grind
    have e2 : o a.2 + s * (o b.2 - o a.2) - o k.2 = e + s * (b' - e) := by rw [← w.ee, ← w.eb]; grind
    rw [e1, e2]
    have hp := w.hp
    have hq := w.hq
    have m := mul_nn' (mul_nn' s0 (show 0 ≤ 1 - s by grind)) (show 0 ≤ R - (a' * d + b' * e) by have := w.ne; grind)
    have eN : (d + s * (a' - d)) * (d + s * (a' - d)) + (e + s * (b' - e)) * (e + s * (b' - e)) = (1 - s) * (1 - s) * (d * d + e * e) + s * s * (a' * a' + b' * b') + 2 * (s * (1 - s)) * (a' * d + b' * e) := by grind
    constructor
    · rw [eN, hp, hq]; grind
    · grind
theorem foot_round {T : Th} (hT : GoodTh T) {c f l : P2} {r : Int} (hf : Fc.round c r f l ∈ facesL T) {u v n x y : Real} (hn : 0 < n) (h2 : n * n = u * u + v * v) (hc : coneR f l u v) (hx : (x - o c.1) * n = o r * u) (hy : (y - o c.2) * n = o r * v) : InS T x y := by
  have zero : o r = 0 → x = o c.1 ∧ y = o c.2 := fun z => by
    rw [z] at hx hy
    exact ⟨by have := eq_of_mul hn (show x * n = o c.1 * n by grind); exact this, by have := eq_of_mul hn (show y * n = o c.2 * n by grind); exact this⟩
  cases T with
  | spot p =>
    simp only [facesL, List.mem_cons, List.not_mem_nil, or_false, Fc.round.injEq] at hf
    obtain ⟨rfl, rfl, rfl, rfl⟩ := hf
    exact zero o_0
  | cord p q =>
    simp only [facesL, List.mem_cons, List.not_mem_nil, or_false, Fc.round.injEq, reduceCtorEq, false_or] at hf
    rcases hf with ⟨rfl, rfl, rfl, rfl⟩ | ⟨rfl, rfl, rfl, rfl⟩
    · obtain ⟨rfl, rfl⟩ := zero o_0
      exact ⟨1, by grind, by grind, by grind, by grind⟩
    · obtain ⟨rfl, rfl⟩ := zero o_0
      exact ⟨0, by grind, by grind, by grind, by grind⟩
  | bow k p q =>
    have hb := hT.2.2.2
    obtain ⟨a, b, d, e, R, ρ, w⟩ := bw_of hb
    obtain ⟨n1, n2, n3⟩ := bow_ne hb
    have hp := w.hp
    have hq := w.hq
    have R0 := w.R0
    obtain ⟨np, nq⟩ := hb.np
    obtain ⟨g, g0, g1, g2⟩ := low_rel (dif_ne np)
    obtain ⟨g', g0', g1', g2'⟩ := low_rel (dif_ne nq)
    have d1 : o (dif p k).1 = a := by unfold dif; rw [o_sub]; exact w.ea
    have d2 : o (dif p k).2 = b := by unfold dif; rw [o_sub]; exact w.eb
    have d3 : o (dif q k).1 = d := by unfold dif; rw [o_sub]; exact w.ed
    have d4 : o (dif q k).2 = e := by unfold dif; rw [o_sub]; exact w.ee
    rw [d1] at g1
    rw [d2] at g2
    rw [d3] at g1'
    rw [d4] at g2'
    refine (bow_in w).mpr ?_
    simp only [facesL, List.mem_cons, List.not_mem_nil, or_false, Fc.round.injEq, reduceCtorEq, false_or] at hf
    rcases hf with ⟨rfl, rfl, rfl, rfl⟩ | ⟨rfl, rfl, rfl, rfl⟩ | ⟨rfl, rfl, rfl, rfl⟩
    · rw [w.er] at hx hy
      obtain ⟨c1, c2⟩ := coneR_ne hc n1
      have r0 := w.r0
      have rr := w.rr
      generalize x - o c.1 = X at *
      generalize y - o c.2 = Y at *
      have nn : 0 < n * n := Real.mul_pos hn hn
      have eX : X * X + Y * Y = R := by
        refine eq_of_mul nn ?_
        have : (X * X + Y * Y) * (n * n) = (X * n) * (X * n) + (Y * n) * (Y * n) := by grind
        rw [this, hx, hy, ← rr, h2]
        grind
      have k1 : 0 ≤ a * v - b * u := by
        have := nn_mul g0 c1
        rw [g1, g2]; grind
      have k2 : 0 ≤ u * e - v * d := by
        have := nn_mul g0' c2
        rw [g1', g2']; grind
      have α : 0 ≤ a * Y - b * X := by
        refine le_of_mul hn ?_
        have : (a * Y - b * X) * n = ρ * (a * v - b * u) := by
          have : (a * Y - b * X) * n = a * (Y * n) - b * (X * n) := by grind
          rw [this, hx, hy]; grind
        rw [this]
        have := nn_mul r0 k1
        grind
      have β : 0 ≤ X * e - Y * d := by
        refine le_of_mul hn ?_
        have : (X * e - Y * d) * n = ρ * (u * e - v * d) := by
          have : (X * e - Y * d) * n = (X * n) * e - (Y * n) * d := by grind
          rw [this, hx, hy]; grind
        rw [this]
        have := nn_mul r0 k2
        grind
      have A : a * X + b * Y ≤ R := by
        have := Real.sq_nn (a - X)
        have := Real.sq_nn (b - Y)
        grind
      have B : X * d + Y * e ≤ R := by
        have := Real.sq_nn (X - d)
        have := Real.sq_nn (Y - e)
        grind
      have m1 := mul_nn' α (show 0 ≤ R - (X * d + Y * e) by grind)
      have m2 := mul_nn' β (show 0 ≤ R - (a * X + b * Y) by grind)
      refine ⟨by grind, ?_⟩
      have K : a * e - b * d ≤ (a * Y - b * X) + (X * e - Y * d) := by
        refine le_of_mul R0 ?_
        have : (a * e - b * d) * R = (a * Y - b * X) * (X * d + Y * e) + (X * e - Y * d) * (a * X + b * Y) := by rw [← eX]; grind
        rw [this]
        grind
      grind
    · obtain ⟨rfl, rfl⟩ := zero o_0
      rw [w.ed, w.ee]
      exact ⟨by grind, by grind⟩
    · obtain ⟨rfl, rfl⟩ := zero o_0
      rw [w.ea, w.eb]
      exact ⟨by grind, by grind⟩
end Rs

/-! the distance of a place: no nearer place of the thing, and one that is so near -/
namespace Rs
open Lb Ld Rl
theorem o_cast (i : Int) : o i = Real.of ((i : Int) : Rat) := rfl
theorem of_nrm (P : R2) (c : P2) : Real.of (nrm (difR P c)) = (Real.of P.1 - o c.1) * (Real.of P.1 - o c.1) + (Real.of P.2 - o c.2) * (Real.of P.2 - o c.2) := by
  unfold nrm difR
  dsimp only
  rw [Real.of_add, Real.of_mul, Real.of_mul, Real.of_sub, Real.of_sub]
theorem of_dotR (P : R2) (c n : P2) : Real.of (dotR (difR P c) n) = (Real.of P.1 - o c.1) * o n.1 + (Real.of P.2 - o c.2) * o n.2 := by
  unfold dotR difR
  dsimp only
  rw [Real.of_add, Real.of_mul, Real.of_mul, Real.of_sub, Real.of_sub]
theorem of_crsR (P : R2) (c n : P2) : Real.of (crsR (difR P c) n) = (Real.of P.1 - o c.1) * o n.2 - (Real.of P.2 - o c.2) * o n.1 := by
  unfold crsR difR
  dsimp only
  rw [Real.of_sub, Real.of_mul, Real.of_mul, Real.of_sub, Real.of_sub]
theorem of_le0 {q : Rat} : Real.of q ≤ 0 ↔ q ≤ 0 := by rw [← Real.of_zero, Real.of_le]
theorem of_ge0 {q : Rat} : 0 ≤ Real.of q ↔ 0 ≤ q := by rw [← Real.of_zero, Real.of_le]
theorem outR_cone {P : R2} {c f l : P2} (h : outR (difR P c) f l) : coneR f l (Real.of P.1 - o c.1) (Real.of P.2 - o c.2) := by
  rcases h with h | ⟨h1, h2⟩
  · exact .inl h
  · right
    have e1 := of_crsR P c f
    have e2 := of_crsR P c l
    rw [← of_le0, e1] at h1
    rw [← of_ge0, e2] at h2
    exact ⟨by grind, by grind⟩
/-- the length of an outward direction -/
theorem len_real {n : P2} {k : Nat} (h : DirOk k n) : 0 < o (lenq n : Int) ∧ o (lenq n : Int) * o (lenq n : Int) = o n.1 * o n.1 + o n.2 * o n.2 := by
  have e := lenq_sq h
  refine ⟨?_, ?_⟩
  · refine o_pos ?_
    have nz : lenq n ≠ 0 := fun z => by
      rw [z] at e
      apply h.ne
      unfold dot at e
      have s1 : 0 ≤ n.1 * n.1 := by
        rcases Int.le_total 0 n.1 with w | w
        · exact Int.mul_nonneg w w
        · exact Int.mul_nonneg_of_nonpos_of_nonpos w w
      have s2 : 0 ≤ n.2 * n.2 := by
        rcases Int.le_total 0 n.2 with w | w
        · exact Int.mul_nonneg w w
        · exact Int.mul_nonneg_of_nonpos_of_nonpos w w
      exact Prod.ext (sq0 (by omega)) (sq0 (by omega))
    have n0 : 0 ≤ lenq n := by unfold lenq; omega
    omega
  · rw [← o_mul, e]
    unfold dot
    rw [o_add, o_mul, o_mul]
theorem cauchy_sq {h X Y u v m : Real} (h0 : 0 ≤ h) (hle : h ≤ X * u + Y * v) (hm : 0 < m) (h2 : m * m = u * u + v * v) {d : Real} (hd : d * m = h) (d0 : 0 ≤ d) : d * d ≤ X * X + Y * Y := by
  have mm := Real.mul_pos hm hm
  refine le_of_mul mm ?_
  have e : d * d * (m * m) = h * h := by rw [← hd]; grind
  rw [e]
  have s := Real.sq_nn (X * v - Y * u)
  have e2 : (X * X + Y * Y) * (m * m) = (X * u + Y * v) * (X * u + Y * v) + (X * v - Y * u) * (X * v - Y * u) := by rw [h2]; grind
  have z := mul_nn' (show 0 ≤ X * u + Y * v - h by grind) (show 0 ≤ X * u + Y * v + h by grind)
  rw [e2]
  grind
theorem val_side (P : R2) (a b : P2) (hl : (lenq (outw a b) : Int) ≠ 0) : val (fdR P (.side a b)) * o (lenq (outw a b)) = Real.of (heightR P a b) := by
  show val ⟨heightR P a b / (lenq (outw a b) : Int), 0, 0⟩ * _ = _
  rw [val_fr, o_cast, ← Real.of_mul]
  congr 1
  exact Rat.div_mul_cancel (castne hl)
theorem val_round (P : R2) (c : P2) (r : Int) (f l : P2) : val (fdR P (.round c r f l)) = rtq (nrm (difR P c)) - o r := by
  show val (canon ((0 - r : Int) : Rat) 1 (nrm (difR P c))) = _
  rw [canon_val (nrm_nonneg _), of_int1, o_cast, show ((0 - r : Int) : Rat) = ((-r : Int) : Rat) by rw [Int.zero_sub], ofI_neg]
  grind
structure Nst (T : Th) (P : R2) (d : Real) : Prop where
  nn : 0 ≤ d
  lb : ∀ x y, InS T x y → d * d ≤ (Real.of P.1 - x) * (Real.of P.1 - x) + (Real.of P.2 - y) * (Real.of P.2 - y)
  at_ : ∃ x y, InS T x y ∧ (Real.of P.1 - x) * (Real.of P.1 - x) + (Real.of P.2 - y) * (Real.of P.2 - y) = d * d
theorem face_nst {T : Th} (hT : GoodTh T) {P : R2} {f : Fc} (hf : f ∈ facesL T) (hs : spokedR P f) : Nst T P (val (fdR P f)) ∧ 0 < val (fdR P f) := by
  have fg := faces_good hT f hf
  cases f with
  | side a b =>
    obtain ⟨ne, ba, bb, wh⟩ := fg
    have dk : DirOk 12 (outw a b) := outw_ok ne ba bb wh
    obtain ⟨m0, mm⟩ := len_real dk
    have l0 : (lenq (outw a b) : Int) ≠ 0 := fun z => by
      rw [show o (lenq (outw a b)) = o 0 by rw [z], o_0] at m0
      grind
    have ev1 := val_side P a b l0
    obtain ⟨h0, bs0, bs1⟩ := hs
    have hp := of_pos h0
    have eh := of_dotR P a (outw a b)
    have eh' : Real.of (heightR P a b) = _ := eh
    have vp : 0 < val (fdR P (.side a b)) := by
      rcases Real.tri' (val (fdR P (.side a b))) 0 with z | z | z
      · have := Real.mul_pos (show 0 < - val (fdR P (.side a b)) by grind) m0
        grind
      · rw [z] at ev1; grind
      · exact z
    refine ⟨⟨by grind, fun x y hx => ?_, ?_⟩, vp⟩
    · have su := sup_side hT hf hx
      refine cauchy_sq (h := Real.of (heightR P a b)) (by grind) ?_ m0 mm ev1 (by grind)
      rw [eh']
      grind
    · obtain ⟨G, g0, g1, g2⟩ := out_rel ne
      obtain ⟨G', L, C, t, lay⟩ := lay_of ne P
      have t0 : 0 ≤ t := by rw [lay.et]; exact bs0
      have t1 : t ≤ (L : Rat) := by rw [lay.et, lay.eL]; exact bs1
      have lr := lay.lr
      have es : t / (L : Rat) * (L : Rat) = t := Rat.div_mul_cancel (by grind)
      have s0 : 0 ≤ t / (L : Rat) := by
        rw [Rat.div_def]
        exact Rat.mul_nonneg t0 (Rat.le_of_lt (Rat.inv_pos.mpr lr))
      have s1 : t / (L : Rat) ≤ 1 := by
        rcases rat_lt_or_le 1 (t / (L : Rat)) with z | z
        · have := Rat.mul_pos (show 0 < t / (L : Rat) - 1 by grind) lr
          grind
        · exact z
      generalize t / (L : Rat) = s at *
      have S0 : 0 ≤ Real.of s := of_nn s0
      have S1 : Real.of s ≤ 1 := by rw [← Real.of_one, Real.of_le]; exact s1
      refine ⟨_, _, foot_side hT hf S0 S1, ?_⟩
      have et : Real.of s * o L = (Real.of P.1 - o a.1) * (o b.1 - o a.1) + (Real.of P.2 - o a.2) * (o b.2 - o a.2) := by
        rw [o_cast, ← Real.of_mul, es, lay.et, of_dotR]
        unfold dif
        dsimp only
        rw [o_sub, o_sub]
      have eL : o L = (o b.1 - o a.1) * (o b.1 - o a.1) + (o b.2 - o a.2) * (o b.2 - o a.2) := by
        rw [lay.eL]
        unfold dot dif
        dsimp only
        rw [o_add, o_mul, o_mul, o_sub, o_sub]
      refine eq_of_mul (Real.mul_pos m0 m0) ?_
      have ev2 : val (fdR P (.side a b)) * val (fdR P (.side a b)) * (o (lenq (outw a b)) * o (lenq (outw a b))) = Real.of (heightR P a b) * Real.of (heightR P a b) := by rw [← ev1]; grind
      rw [ev2, mm, eh']
      rw [eL] at et
      generalize Real.of s = σ at *
      generalize Real.of P.1 = X at *
      generalize Real.of P.2 = Y at *
      have d2 : o b.2 = o a.2 + G * o (outw a b).1 := by grind
      have d1 : o b.1 = o a.1 - G * o (outw a b).2 := by grind
      rw [d1, d2] at et ⊢
      generalize o (outw a b).1 = n1 at *
      generalize o (outw a b).2 = n2 at *
      generalize o (lenq (outw a b)) = m at *
      have z : (X - o a.1 + σ * G * n2) * n2 - (Y - o a.2 - σ * G * n1) * n1 = 0 := by
        refine eq_of_mul g0 ?_
        grind
      have e1 : X - (o a.1 + σ * (o a.1 - G * n2 - o a.1)) = X - o a.1 + σ * G * n2 := by grind
      have e2 : Y - (o a.2 + σ * (o a.2 + G * n1 - o a.2)) = Y - o a.2 - σ * G * n1 := by grind
      rw [e1, e2]
      have e3 : (X - o a.1) * n1 + (Y - o a.2) * n2 = (X - o a.1 + σ * G * n2) * n1 + (Y - o a.2 - σ * G * n1) * n2 := by grind
      rw [e3]
      generalize X - o a.1 + σ * G * n2 = U at *
      generalize Y - o a.2 - σ * G * n1 = V at *
      have e4 : (U * U + V * V) * (n1 * n1 + n2 * n2) = (U * n1 + V * n2) * (U * n1 + V * n2) + (U * n2 - V * n1) * (U * n2 - V * n1) := by grind
      rw [e4, z]
      grind
  | round c r f l =>
    obtain ⟨_, _, bc, r0, rs⟩ := fg
    obtain ⟨h1, h2⟩ := hs
    have hc := outR_cone h2
    have N0 := nrm_nonneg (difR P c)
    have n0 := rtq_nn (nrm (difR P c))
    have nn := rtq_sq N0
    have r0' := o_nn r0
    have lt : o r < rtq (nrm (difR P c)) := by
      rcases Real.tri' (o r) (rtq (nrm (difR P c))) with z | z | z
      · exact z
      · exfalso
        apply h1
        rw [← Real.of_le, ← nn, ← z, ← o_cast, o_mul]
        grind
      · exfalso
        apply h1
        rw [← Real.of_le, ← nn, ← o_cast, o_mul]
        have := mul_nn' n0 (show 0 ≤ o r - rtq (nrm (difR P c)) by grind)
        have := mul_nn' r0' (show 0 ≤ o r - rtq (nrm (difR P c)) by grind)
        grind
    rw [val_round]
    have en := of_nrm P c
    rw [← nn] at en
    have np : 0 < rtq (nrm (difR P c)) := by grind
    refine ⟨⟨by grind, fun x y hx => ?_, ?_⟩, by grind⟩
    · have su := sup_round hT hf (by grind) en hc hx
      refine cauchy_sq (u := Real.of P.1 - o c.1) (v := Real.of P.2 - o c.2) (h := (rtq (nrm (difR P c)) - o r) * rtq (nrm (difR P c))) (mul_nn' (by grind) n0) ?_ np en rfl (by grind)
      grind
    · have Np : 0 < nrm (difR P c) := by
        rcases rat_lt_or_le 0 (nrm (difR P c)) with z | z
        · exact z
        · have e := Rat.le_antisymm z N0
          rw [e, rtq_zero] at np
          grind
      obtain ⟨iv, hiv⟩ : ∃ iv : Real, rtq (nrm (difR P c)) * iv = 1 := by
        refine ⟨rtq (nrm (difR P c)) * Real.of (nrm (difR P c))⁻¹, ?_⟩
        have : rtq (nrm (difR P c)) * (rtq (nrm (difR P c)) * Real.of (nrm (difR P c))⁻¹) = (rtq (nrm (difR P c)) * rtq (nrm (difR P c))) * Real.of (nrm (difR P c))⁻¹ := by grind
        rw [this, nn, ← Real.of_mul, Rat.mul_inv_cancel _ (by grind), Real.of_one]
      generalize rtq (nrm (difR P c)) = n at *
      refine ⟨o c.1 + o r * (Real.of P.1 - o c.1) * iv, o c.2 + o r * (Real.of P.2 - o c.2) * iv, foot_round hT hf np en hc (by grind) (by grind), ?_⟩
      generalize Real.of P.1 = X at *
      generalize Real.of P.2 = Y at *
      have e1 : X - (o c.1 + o r * (X - o c.1) * iv) = (X - o c.1) * (1 - o r * iv) := by grind
      have e2 : Y - (o c.2 + o r * (Y - o c.2) * iv) = (Y - o c.2) * (1 - o r * iv) := by grind
      rw [e1, e2]
      have e3 : (X - o c.1) * (1 - o r * iv) * ((X - o c.1) * (1 - o r * iv)) + (Y - o c.2) * (1 - o r * iv) * ((Y - o c.2) * (1 - o r * iv)) = (n * n) * ((1 - o r * iv) * (1 - o r * iv)) := by rw [en]; grind
      rw [e3]
      have e4 : n * (1 - o r * iv) = n - o r := by grind
      rw [← e4]
      grind
end Rs

namespace Rs
open Lb Ld Rl
theorem real_nrm0 {P : R2} {c : P2} (h : nrm (difR P c) = 0) : Real.of P.1 = o c.1 ∧ Real.of P.2 = o c.2 := by
  have e := of_nrm P c
  rw [h, Real.of_zero] at e
  have s1 := Real.sq_nn (Real.of P.1 - o c.1)
  have s2 := Real.sq_nn (Real.of P.2 - o c.2)
  have z1 : (Real.of P.1 - o c.1) * (Real.of P.1 - o c.1) = 0 := by grind
  have z2 : (Real.of P.2 - o c.2) * (Real.of P.2 - o c.2) = 0 := by grind
  exact ⟨by rcases Real.mul_zero' z1 with z | z <;> grind, by rcases Real.mul_zero' z2 with z | z <;> grind⟩
theorem none_on {T : Th} (hT : GoodTh T) {P : R2} (hn : ∀ f ∈ facesL T, ¬ spokedR P f) : InS T (Real.of P.1) (Real.of P.2) := by
  cases T with
  | spot p =>
    have h := hn (.round p 0 (1, 0) (1, 0)) (by simp [facesL])
    have z : nrm (difR P p) = 0 := by
      rcases rat_lt_or_le 0 (nrm (difR P p)) with w | w
      · exfalso
        apply h
        exact ⟨by rw [show ((0 * 0 : Int) : Rat) = 0 from rfl]; grind, .inl rfl⟩
      · exact Rat.le_antisymm w (nrm_nonneg _)
    exact real_nrm0 z
  | cord p q =>
    have hne := hT.2.2.1
    obtain ⟨G, L, C, t, lay⟩ := lay_of hne P
    obtain ⟨s0, s1, s2, s3⟩ := cord_spokes hne lay
    have n0 := mt s0.mpr (hn _ (by simp [facesL]))
    have n1 := mt s1.mpr (hn _ (by simp [facesL]))
    have n2 := mt s2.mpr (hn _ (by simp [facesL]))
    have n3 := mt s3.mpr (hn _ (by simp [facesL]))
    have lr := lay.lr
    have hC : C = 0 := by
      rcases rat_lt_or_le 0 t with a | a
      · rcases rat_lt_or_le t L with b | b
        · rcases rat_lt_or_le 0 C with d | d
          · exact absurd ⟨d, by grind, by grind⟩ n0
          · rcases rat_lt_or_le C 0 with e | e
            · exact absurd ⟨e, by grind, by grind⟩ n2
            · grind
        · have : C = 0 ∧ t = L := by
            false_or_by_contra
            rename_i w
            exact n1 ⟨w, b⟩
          exact this.1
      · have : C = 0 ∧ t = 0 := by
          false_or_by_contra
          rename_i w
          exact n3 ⟨w, a⟩
        exact this.1
    have t0 : 0 ≤ t := by
      rcases rat_lt_or_le t 0 with a | a
      · have : C = 0 ∧ t = 0 := by
          false_or_by_contra
          rename_i w
          exact n3 ⟨w, by grind⟩
        grind
      · exact a
    have t1 : t ≤ (L : Rat) := by
      rcases rat_lt_or_le (L : Rat) t with a | a
      · have : C = 0 ∧ t = L := by
          false_or_by_contra
          rename_i w
          exact n1 ⟨w, by grind⟩
        grind
      · exact a
    have es : t / (L : Rat) * (L : Rat) = t := Rat.div_mul_cancel (by grind)
    have s0 : 0 ≤ t / (L : Rat) := by
      rw [Rat.div_def]
      exact Rat.mul_nonneg t0 (Rat.le_of_lt (Rat.inv_pos.mpr lr))
    have s1 : t / (L : Rat) ≤ 1 := by
      rcases rat_lt_or_le 1 (t / (L : Rat)) with z | z
      · have := Rat.mul_pos (show 0 < t / (L : Rat) - 1 by grind) lr
        grind
      · exact z
    generalize t / (L : Rat) = s at *
    have et : Real.of s * o L = (Real.of P.1 - o p.1) * (o q.1 - o p.1) + (Real.of P.2 - o p.2) * (o q.2 - o p.2) := by
      rw [o_cast, ← Real.of_mul, es, lay.et, of_dotR]
      unfold dif
      dsimp only
      rw [o_sub, o_sub]
    have eC : (Real.of P.1 - o p.1) * (o q.2 - o p.2) - (Real.of P.2 - o p.2) * (o q.1 - o p.1) = 0 := by
      have := of_crsR P p (dif q p)
      rw [← lay.eC, hC, Real.of_zero] at this
      unfold dif at this
      dsimp only at this
      rw [o_sub, o_sub] at this
      exact this.symm
    have eL : o L = (o q.1 - o p.1) * (o q.1 - o p.1) + (o q.2 - o p.2) * (o q.2 - o p.2) := by
      rw [lay.eL]
      unfold dot dif
      dsimp only
      rw [o_add, o_mul, o_mul, o_sub, o_sub]
    have L0 : 0 < o L := o_pos lay.l0
    refine ⟨Real.of s, of_nn s0, by rw [← Real.of_one, Real.of_le]; exact s1, ?_, ?_⟩
    · refine eq_of_mul L0 ?_
      have : (o p.1 + Real.of s * (o q.1 - o p.1)) * o L = o p.1 * o L + (Real.of s * o L) * (o q.1 - o p.1) := by grind
      rw [this, et, eL]
      grind
    · refine eq_of_mul L0 ?_
      have : (o p.2 + Real.of s * (o q.2 - o p.2)) * o L = o p.2 * o L + (Real.of s * o L) * (o q.2 - o p.2) := by grind
      rw [this, et, eL]
      grind
  | bow c p q =>
    have hb := hT.2.2.2
    obtain ⟨R, E1, E2, x, y, X, Y, G, L, C, t, b⟩ := bl_of hb P
    obtain ⟨s0, s1, s2, s3⟩ := bow_spokes hb b
    have n0 := mt s0.mpr (hn _ (by simp [facesL]))
    have n1 := mt s1.mpr (hn _ (by simp [facesL]))
    have n2 := mt s2.mpr (hn _ (by simp [facesL]))
    have n3 := mt s3.mpr (hn _ (by simp [facesL]))
    have l0 := b.lay.lr
    have idx : idxF P 0 (facesL (.bow c p q)) = [] := by
      unfold facesL
      rw [idx4_of false false false false (no s0 n0) (no s1 n1) (no s2 n2) (no s3 n3)]
      rfl
    have on : nrm (difR P c) ≤ R ∧ C ≤ 0 := by
      false_or_by_contra
      rename_i off
      have hs : ¬ (Y ≤ 0 ∧ y ≤ 0 ∧ R < nrm (difR P c)) := fun z => n0 ⟨z.2.2, z.1, z.2.1⟩
      have key : ∀ ns : List Int, OfC 1 2 3 9 C t L ns → ns = [] := fun ns h => by rw [← faces_bow_off hb b off hs h, idx]
      by_cases h1 : t < 0 ∨ (t = 0 ∧ C = 0)
      · have := key [1] (.inl ⟨h1, rfl⟩)
        cases this
      by_cases h2 : (L : Rat) < t ∨ (t = L ∧ C = 0)
      · have := key [3] (.inr (.inl ⟨h1, h2, rfl⟩))
        cases this
      have third : ∀ ns : List Int, ns.Perm ((if 0 < C then (2 : Int) else 9) :: ((if t = 0 then [1] else []) ++ (if t = L then [3] else []))) → ns.Pairwise (· ≤ ·) → False := fun ns a b2 => by
        have e := key ns (.inr (.inr ⟨h1, h2, a, b2⟩))
        rw [e] at a
        exact absurd a.length_eq (by simp)
      by_cases ht : t = 0
      · have hL : ¬ t = L := by grind
        by_cases hc : 0 < C
        · refine third [1, 2] ?_ (by decide)
          rw [if_pos hc, if_pos ht, if_neg hL]
          decide
        · refine third [1, 9] ?_ (by decide)
          rw [if_neg hc, if_pos ht, if_neg hL]
          decide
      · by_cases hL : t = L
        · by_cases hc : 0 < C
          · refine third [2, 3] ?_ (by decide)
            rw [if_pos hc, if_neg ht, if_pos hL]
            decide
          · refine third [3, 9] ?_ (by decide)
            rw [if_neg hc, if_neg ht, if_pos hL]
            decide
        · by_cases hc : 0 < C
          · refine third [2] ?_ (by decide)
            rw [if_pos hc, if_neg ht, if_neg hL]
            decide
          · refine third [9] ?_ (by decide)
            rw [if_neg hc, if_neg ht, if_neg hL]
            decide
    obtain ⟨on1, on2⟩ := on
    constructor
    · rw [← of_nrm P c]
      have eR := b.eR
      have : ((far c p : Int) : Rat) = R := by
        rw [eR]
        congr 1
        unfold far dot dif
        dsimp only
        grind
      rw [o_cast, this, Real.of_le]
      exact on1
    · have e := of_crsR P q (dif p q)
      rw [← b.lay.eC] at e
      have c0 := of_le0.mpr on2
      rw [e] at c0
      unfold dif at c0
      dsimp only at c0
      rw [o_sub, o_sub] at c0
      grind
theorem dist_nst {T : Th} (hT : GoodTh T) (P : R2) : Nst T P (val (distR T P)) ∧ (val (distR T P) = 0 ↔ firstR T P = none) := by
  unfold distR
  cases h : firstR T P with
  | none =>
    have hn : ∀ f ∈ facesL T, ¬ spokedR P f := fun f hf => by
      have := List.find?_eq_none.mp h f hf
      simpa using this
    have hv : val (⟨0, 0, 0⟩ : Rt) = 0 := by rw [val_fr, Real.of_zero]
    dsimp only
    rw [hv]
    refine ⟨⟨by grind, fun x y _ => ?_, _, _, none_on hT hn, by grind⟩, by simp⟩
    have := Real.sq_nn (Real.of P.1 - x)
    have := Real.sq_nn (Real.of P.2 - y)
    grind
  | some f =>
    have hf : f ∈ facesL T := List.mem_of_find?_eq_some h
    have hs : spokedR P f := by
      have := List.find?_some h
      simpa using this
    obtain ⟨a, b⟩ := face_nst hT hf hs
    exact ⟨a, ⟨fun z => by dsimp only at z; grind, fun z => by cases z⟩⟩
/-- the told distance is a root in its form -/
theorem canon_ok {b q : Rat} {s : Int} (h0 : 0 ≤ q) (hs : s = -1 ∨ s = 0 ∨ s = 1) : Ok (canon b s q) := by
  unfold canon
  split
  · exact ok_fr0 b
  · rename_i h
    split
    · exact ok_fr0 _
    · refine ⟨h0, hs, fun z => absurd (.inl z) h, fun _ => ?_⟩
      rcases rat_lt_or_le 0 q with z | z
      · exact z
      · exact absurd (.inr (Rat.le_antisymm z h0)) h
theorem fd_ok (P : R2) (f : Fc) : Ok (fdR P f) ∧ Cn (fdR P f) := by
  cases f with
  | side a b => exact ⟨ok_fr0 _, cn_fr0 _⟩
  | round c r f l => exact ⟨canon_ok (nrm_nonneg _) (by decide), canon_cn ..⟩
theorem dist_ok (T : Th) (P : R2) : Ok (distR T P) ∧ Cn (distR T P) := by
  unfold distR
  split
  · exact ⟨ok_fr0 0, cn_fr0 0⟩
  · exact fd_ok P _
end Rs

/-! two things: the distance that faces tell is the least -/
namespace Rs
open Lb Ld Rl
def outI (f l u : P2) : Prop := f = l ∨ (0 ≤ crs f u ∧ 0 ≤ crs u l)
instance (f l u : P2) : Decidable (outI f l u) := by unfold outI; infer_instance
def neg2 (u : P2) : P2 := (0 - u.1, 0 - u.2)
def roundP (c1 : P2) (r1 : Int) (f1 l1 c2 : P2) (r2 : Int) (f2 l2 : P2) : Option Rt :=
  if dif c2 c1 = (0, 0) ∨ ¬ outI f1 l1 (dif c2 c1) ∨ ¬ outI f2 l2 (neg2 (dif c2 c1)) then none else some (canon ((0 - r1 - r2 : Int) : Rat) 1 ((dot (dif c2 c1) (dif c2 c1) : Int) : Rat))
def sideP (a b c : P2) (r : Int) (f l : P2) : Option Rt :=
  if ¬ besideR (toR c) a b ∨ ¬ outI f l (neg2 (outw a b)) then none else some ⟨((dot (dif c a) (outw a b) - r * lenq (outw a b) : Int) : Rat) / ((lenq (outw a b) : Int) : Rat), 0, 0⟩
def farP : Fc → Fc → Option Rt
  | .side _ _, .side _ _ => none
  | .side a b, .round c r f l => sideP a b c r f l
  | .round c r f l, .side a b => sideP a b c r f l
  | .round c1 r1 f1 l1, .round c2 r2 f2 l2 => roundP c1 r1 f1 l1 c2 r2 f2 l2
structure Apt (A B : Th) (d : Real) : Prop where
  nn : 0 ≤ d
  lb : ∀ x y z w, InS A x y → InS B z w → d * d ≤ (z - x) * (z - x) + (w - y) * (w - y)
  at_ : ∃ x y z w, InS A x y ∧ InS B z w ∧ (z - x) * (z - x) + (w - y) * (w - y) = d * d
theorem Apt.symm {A B : Th} {d : Real} (h : Apt A B d) : Apt B A d := by
  obtain ⟨x, y, z, w, a, b, e⟩ := h.at_
  exact ⟨h.nn, fun x y z w a b => by have := h.lb _ _ _ _ b a; grind, z, w, x, y, b, a, by rw [← e]; grind⟩
theorem outI_cone {f l u : P2} (h : outI f l u) : coneR f l (o u.1) (o u.2) := by
  rcases h with h | ⟨h1, h2⟩
  · exact .inl h
  · right
    unfold crs at h1 h2
    have a := o_nn h1
    have b := o_nn h2
    rw [o_sub, o_mul, o_mul] at a b
    exact ⟨a, b⟩
theorem o_neg2 (u : P2) : o (neg2 u).1 = - o u.1 ∧ o (neg2 u).2 = - o u.2 := by
  unfold neg2
  dsimp only
  rw [o_sub, o_sub, o_0]
  exact ⟨by grind, by grind⟩
theorem rounds_apt {A B : Th} (hA : GoodTh A) (hB : GoodTh B) {c1 f1 l1 c2 f2 l2 : P2} {r1 r2 : Int} (h1 : Fc.round c1 r1 f1 l1 ∈ facesL A) (h2 : Fc.round c2 r2 f2 l2 ∈ facesL B) {ρ : Rt} (h : roundP c1 r1 f1 l1 c2 r2 f2 l2 = some ρ) (hp : 0 < val ρ) : Apt A B (val ρ) := by
  unfold roundP at h
  split at h
  · cases h
  rename_i hc
  have hu : dif c2 c1 ≠ (0, 0) := fun z => hc (.inl z)
  have k1 : outI f1 l1 (dif c2 c1) := by
    false_or_by_contra
    rename_i z
    exact hc (.inr (.inl z))
  have k2 : outI f2 l2 (neg2 (dif c2 c1)) := by
    false_or_by_contra
    rename_i z
    exact hc (.inr (.inr z))
  have q1 := outI_cone k1
  have q2 := outI_cone k2
  obtain ⟨m1, m2⟩ := o_neg2 (dif c2 c1)
  rw [m1, m2] at q2
  have eu : o (dif c2 c1).1 = o c2.1 - o c1.1 := by unfold dif; exact o_sub ..
  have ev1 : o (dif c2 c1).2 = o c2.2 - o c1.2 := by unfold dif; exact o_sub ..
  have eN : o (dot (dif c2 c1) (dif c2 c1)) = o (dif c2 c1).1 * o (dif c2 c1).1 + o (dif c2 c1).2 * o (dif c2 c1).2 := by unfold dot; rw [o_add, o_mul, o_mul]
  have N0 : (0 : Rat) ≤ ((dot (dif c2 c1) (dif c2 c1) : Int) : Rat) := by
    rw [← of_ge0, ← o_cast, eN]
    have := Real.sq_nn (o (dif c2 c1).1)
    have := Real.sq_nn (o (dif c2 c1).2)
    grind
  have hv : val ρ = rtq ((dot (dif c2 c1) (dif c2 c1) : Int) : Rat) - o r1 - o r2 := by
    rw [← Option.some.inj h, canon_val N0, of_int1, o_cast, of_int_sub, of_int_sub, of_int0]
    grind
  have n0 := rtq_nn ((dot (dif c2 c1) (dif c2 c1) : Int) : Rat)
  have nn := rtq_sq N0
  rw [← o_cast, eN] at nn
  obtain ⟨_, _, _, r10, _⟩ := faces_good hA _ h1
  obtain ⟨_, _, _, r20, _⟩ := faces_good hB _ h2
  have R1 := o_nn r10
  have R2 := o_nn r20
  rw [hv] at hp ⊢
  have np : 0 < rtq ((dot (dif c2 c1) (dif c2 c1) : Int) : Rat) := by grind
  have Np : (0 : Rat) < ((dot (dif c2 c1) (dif c2 c1) : Int) : Rat) := by
    rcases rat_lt_or_le 0 ((dot (dif c2 c1) (dif c2 c1) : Int) : Rat) with z | z
    · exact z
    · have e := Rat.le_antisymm z N0
      rw [e, rtq_zero] at np
      grind
  have nn' := rtq_sq N0
  generalize ((dot (dif c2 c1) (dif c2 c1) : Int) : Rat) = N at *
  obtain ⟨iv, hiv⟩ : ∃ iv : Real, rtq N * iv = 1 := by
    refine ⟨rtq N * Real.of N⁻¹, ?_⟩
    have : rtq N * (rtq N * Real.of N⁻¹) = (rtq N * rtq N) * Real.of N⁻¹ := by grind
    rw [this, nn', ← Real.of_mul, Rat.mul_inv_cancel _ (by grind), Real.of_one]
  clear nn' eN
  generalize rtq N = n at *
  generalize o (dif c2 c1).1 = u at *
  generalize o (dif c2 c1).2 = v at *
  have nn2 : n * n = -u * -u + -v * -v := by grind
  refine ⟨by grind, fun x y z w ha hb => ?_, ?_⟩
  · have s1 := sup_round hA h1 n0 nn q1 ha
    have s2 := sup_round hB h2 n0 nn2 q2 hb
    refine cauchy_sq (u := u) (v := v) (h := (n - o r1 - o r2) * n) (mul_nn' (by grind) n0) ?_ np nn rfl (by grind)
    have e : (n - o r1 - o r2) * n = u * u + v * v - o r1 * n - o r2 * n := by rw [← nn]; grind
    rw [e]
    have e2 : (z - x) * u + (w - y) * v = u * u + v * v + ((z - o c2.1) * u + (w - o c2.2) * v) - ((x - o c1.1) * u + (y - o c1.2) * v) := by rw [eu, ev1]; grind
    rw [e2]
    grind
  · refine ⟨o c1.1 + o r1 * u * iv, o c1.2 + o r1 * v * iv, o c2.1 - o r2 * u * iv, o c2.2 - o r2 * v * iv, foot_round hA h1 np nn q1 (by grind) (by grind), foot_round hB h2 np nn2 q2 (by grind) (by grind), ?_⟩
    have e1 : o c2.1 - o r2 * u * iv - (o c1.1 + o r1 * u * iv) = u * (1 - (o r1 + o r2) * iv) := by rw [eu]; grind
    have e2 : o c2.2 - o r2 * v * iv - (o c1.2 + o r1 * v * iv) = v * (1 - (o r1 + o r2) * iv) := by rw [ev1]; grind
    rw [e1, e2]
    have e3 : u * (1 - (o r1 + o r2) * iv) * (u * (1 - (o r1 + o r2) * iv)) + v * (1 - (o r1 + o r2) * iv) * (v * (1 - (o r1 + o r2) * iv)) = (n * n) * ((1 - (o r1 + o r2) * iv) * (1 - (o r1 + o r2) * iv)) := by rw [nn]; grind
    rw [e3]
    have e4 : n * (1 - (o r1 + o r2) * iv) = n - o r1 - o r2 := by grind
    rw [← e4]
    grind
theorem side_apt {A B : Th} (hA : GoodTh A) (hB : GoodTh B) {a b c f l : P2} {r : Int} (h1 : Fc.side a b ∈ facesL A) (h2 : Fc.round c r f l ∈ facesL B) {ρ : Rt} (h : sideP a b c r f l = some ρ) (hp : 0 < val ρ) : Apt A B (val ρ) := by
  unfold sideP at h
  split at h
  · cases h
  rename_i hc
  have bs : besideR (toR c) a b := by
    false_or_by_contra
    rename_i z
    exact hc (.inl z)
  have k2 : outI f l (neg2 (outw a b)) := by
    false_or_by_contra
    rename_i z
    exact hc (.inr z)
  have q2 := outI_cone k2
  obtain ⟨m1, m2⟩ := o_neg2 (outw a b)
  rw [m1, m2] at q2
  obtain ⟨ne, ba, bb, wh⟩ := faces_good hA _ h1
  have dk : DirOk 12 (outw a b) := outw_ok ne ba bb wh
  obtain ⟨m0, mm⟩ := len_real dk
  have l0 : (lenq (outw a b) : Int) ≠ 0 := fun z => by
    rw [show o (lenq (outw a b)) = o 0 by rw [z], o_0] at m0
    grind
  obtain ⟨_, _, _, r0, _⟩ := faces_good hB _ h2
  have R0 := o_nn r0
  have hv : val ρ * o (lenq (outw a b)) = (o c.1 - o a.1) * o (outw a b).1 + (o c.2 - o a.2) * o (outw a b).2 - o r * o (lenq (outw a b)) := by
    rw [← Option.some.inj h, val_fr, o_cast (lenq (outw a b)), ← Real.of_mul, Rat.div_mul_cancel (castne l0), ← o_cast, o_sub, o_mul]
    unfold dot dif
    dsimp only
    rw [o_add, o_mul, o_mul, o_sub, o_sub]
  obtain ⟨bs0, bs1⟩ := bs
  obtain ⟨G, g0, g1, g2⟩ := out_rel ne
  obtain ⟨G', L, C, t, lay⟩ := lay_of ne (toR c)
  have t0 : 0 ≤ t := by rw [lay.et]; exact bs0
  have t1 : t ≤ (L : Rat) := by rw [lay.et, lay.eL]; exact bs1
  have lr := lay.lr
  have es : t / (L : Rat) * (L : Rat) = t := Rat.div_mul_cancel (by grind)
  have s0 : 0 ≤ t / (L : Rat) := by
    rw [Rat.div_def]
    exact Rat.mul_nonneg t0 (Rat.le_of_lt (Rat.inv_pos.mpr lr))
  have s1 : t / (L : Rat) ≤ 1 := by
    rcases rat_lt_or_le 1 (t / (L : Rat)) with z | z
    · have := Rat.mul_pos (show 0 < t / (L : Rat) - 1 by grind) lr
      grind
    · exact z
  generalize t / (L : Rat) = s at *
  have S0 : 0 ≤ Real.of s := of_nn s0
  have S1 : Real.of s ≤ 1 := by rw [← Real.of_one, Real.of_le]; exact s1
  have ex : Real.of (toR c).1 = o c.1 := rfl
  have ey : Real.of (toR c).2 = o c.2 := rfl
  have et : Real.of s * o L = (o c.1 - o a.1) * (o b.1 - o a.1) + (o c.2 - o a.2) * (o b.2 - o a.2) := by
    rw [o_cast, ← Real.of_mul, es, lay.et, of_dotR, ex, ey]
    unfold dif
    dsimp only
    rw [o_sub, o_sub]
  have eL : o L = (o b.1 - o a.1) * (o b.1 - o a.1) + (o b.2 - o a.2) * (o b.2 - o a.2) := by
    rw [lay.eL]
    unfold dot dif
    dsimp only
    rw [o_add, o_mul, o_mul, o_sub, o_sub]
  obtain ⟨iv, hiv⟩ : ∃ iv : Real, o (lenq (outw a b)) * iv = 1 := by
    refine ⟨Real.of ((lenq (outw a b) : Int) : Rat)⁻¹, ?_⟩
    rw [o_cast, ← Real.of_mul, Rat.mul_inv_cancel _ (castne l0), Real.of_one]
  have mm2 : o (lenq (outw a b)) * o (lenq (outw a b)) = -o (outw a b).1 * -o (outw a b).1 + -o (outw a b).2 * -o (outw a b).2 := by grind
  have supA : ∀ x y, InS A x y → (x - o a.1) * o (outw a b).1 + (y - o a.2) * o (outw a b).2 ≤ 0 := fun x y hx => sup_side hA h1 hx
  have footA := foot_side hA h1 S0 S1
  have supB : ∀ z w, InS B z w → (z - o c.1) * -o (outw a b).1 + (w - o c.2) * -o (outw a b).2 ≤ o r * o (lenq (outw a b)) := fun z w hz => sup_round hB h2 (by grind) mm2 q2 hz
  have footB : ∀ x y, (x - o c.1) * o (lenq (outw a b)) = o r * -o (outw a b).1 → (y - o c.2) * o (lenq (outw a b)) = o r * -o (outw a b).2 → InS B x y := fun x y ex ey => foot_round hB h2 m0 mm2 q2 ex ey
  rw [eL] at et
  have d2 : o b.2 = o a.2 + G * o (outw a b).1 := by grind
  have d1 : o b.1 = o a.1 - G * o (outw a b).2 := by grind
  rw [d1, d2] at et footA
  clear q2 m1 m2 mm2 dk l0 h hc lay t0 t1 lr es s0 s1 bs0 bs1 eL ex ey g1 g2 d1 d2
  generalize Real.of s = σ at *
  generalize o (outw a b).1 = n1 at *
  generalize o (outw a b).2 = n2 at *
  generalize o (lenq (outw a b)) = m at *
  generalize val ρ = d at *
  refine ⟨by grind, fun x y z w ha hb => ?_, ?_⟩
  · have s1 := supA _ _ ha
    have s2 := supB _ _ hb
    refine cauchy_sq (u := n1) (v := n2) (h := d * m) (mul_nn' (by grind) (by grind)) ?_ m0 mm rfl (by grind)
    grind
  · refine ⟨_, _, _, _, footA, footB (o c.1 - o r * n1 * iv) (o c.2 - o r * n2 * iv) (by grind) (by grind), ?_⟩
    have z : (o c.1 - o a.1 + σ * G * n2) * n2 - (o c.2 - o a.2 - σ * G * n1) * n1 = 0 := by
      refine eq_of_mul g0 ?_
      grind
    have e1 : o c.1 - o r * n1 * iv - (o a.1 + σ * (o a.1 - G * n2 - o a.1)) = (o c.1 - o a.1 + σ * G * n2) - o r * iv * n1 := by grind
    have e2 : o c.2 - o r * n2 * iv - (o a.2 + σ * (o a.2 + G * n1 - o a.2)) = (o c.2 - o a.2 - σ * G * n1) - o r * iv * n2 := by grind
    have hv2 : d * m = (o c.1 - o a.1 + σ * G * n2) * n1 + (o c.2 - o a.2 - σ * G * n1) * n2 - o r * m := by grind
    rw [e1, e2]
    generalize o c.1 - o a.1 + σ * G * n2 = U at *
    generalize o c.2 - o a.2 - σ * G * n1 = V at *
    refine eq_of_mul (Real.mul_pos m0 m0) ?_
    have e4 : ((U - o r * iv * n1) * (U - o r * iv * n1) + (V - o r * iv * n2) * (V - o r * iv * n2)) * (m * m) = ((U - o r * iv * n1) * n1 + (V - o r * iv * n2) * n2) * ((U - o r * iv * n1) * n1 + (V - o r * iv * n2) * n2) + (U * n2 - V * n1) * (U * n2 - V * n1) := by rw [mm]; grind
    rw [e4, z]
    have e5 : (U - o r * iv * n1) * n1 + (V - o r * iv * n2) * n2 = d * m := by
      rw [hv2]
      have : o r * iv * (n1 * n1 + n2 * n2) = o r * m := by rw [← mm]; grind
      grind
    rw [e5]
    grind
theorem pair_apt {A B : Th} (hA : GoodTh A) (hB : GoodTh B) {f g : Fc} (h1 : f ∈ facesL A) (h2 : g ∈ facesL B) {ρ : Rt} (h : farP f g = some ρ) (hp : 0 < val ρ) : Apt A B (val ρ) := by
  cases f <;> cases g
  · cases h
  · exact side_apt hA hB h1 h2 h hp
  · exact (side_apt hB hA h2 h1 h hp).symm
  · exact rounds_apt hA hB h1 h2 h hp
theorem far_ok {f g : Fc} {ρ : Rt} (h : farP f g = some ρ) : Ok ρ ∧ Cn ρ := by
  have side : ∀ {a b c : P2} {r : Int} {f l : P2}, sideP a b c r f l = some ρ → Ok ρ ∧ Cn ρ := fun {a b c r f l} h => by
    unfold sideP at h
    split at h
    · cases h
    · rw [← Option.some.inj h]
      exact ⟨ok_fr0 _, cn_fr0 _⟩
  cases f <;> cases g
  · cases h
  · exact side h
  · exact side h
  · rename_i c1 r1 f1 l1 c2 r2 f2 l2
    have h' : roundP c1 r1 f1 l1 c2 r2 f2 l2 = some ρ := h
    unfold roundP at h'
    split at h'
    · cases h'
    · rw [← Option.some.inj h']
      refine ⟨canon_ok ?_ (by decide), canon_cn ..⟩
      rw [← of_ge0, ← o_cast]
      unfold dot
      rw [o_add, o_mul, o_mul]
      have := Real.sq_nn (o (dif c2 c1).1)
      have := Real.sq_nn (o (dif c2 c1).2)
      grind
end Rs

/-! moved, turned, mirrored -/
namespace Rs
open Lb Ld Rl
inductive Mv where
  | shift (t : P2)
  | turn
  | mirror
def lin : Mv → P2 → P2
  | .shift _, u => u
  | .turn, u => (0 - u.2, u.1)
  | .mirror, u => (0 - u.1, u.2)
def mvP : Mv → P2 → P2
  | .shift t, p => (p.1 + t.1, p.2 + t.2)
  | .turn, p => (0 - p.2, p.1)
  | .mirror, p => (0 - p.1, p.2)
def mvT (m : Mv) : Th → Th
  | .spot p => .spot (mvP m p)
  | .cord p q => .cord (mvP m p) (mvP m q)
  | .bow c p q => match m with
    | .mirror => .bow (mvP m c) (mvP m q) (mvP m p)
    | _ => .bow (mvP m c) (mvP m p) (mvP m q)
def mvF (m : Mv) : Fc → Fc
  | .side a b => match m with
    | .mirror => .side (mvP m b) (mvP m a)
    | _ => .side (mvP m a) (mvP m b)
  | .round c r f l => match m with
    | .mirror => .round (mvP m c) r (lin m l) (lin m f)
    | _ => .round (mvP m c) r (lin m f) (lin m l)
theorem dif_mv (m : Mv) (a b : P2) : dif (mvP m a) (mvP m b) = lin m (dif a b) := by
  cases m <;> (unfold dif mvP lin; dsimp only; refine Prod.ext ?_ ?_ <;> dsimp only <;> omega)
theorem dot_lin (m : Mv) (u v : P2) : dot (lin m u) (lin m v) = dot u v := by
  cases m <;> (unfold dot lin; dsimp only) <;> grind
theorem crs_lin (m : Mv) (u v : P2) : crs (lin m u) (lin m v) = match m with | .mirror => crs v u | _ => crs u v := by
  cases m <;> (unfold crs lin; dsimp only) <;> grind
theorem lin_inj (m : Mv) {u v : P2} : lin m u = lin m v ↔ u = v := by
  constructor
  · intro h
    have h1 := congrArg Prod.fst h
    have h2 := congrArg Prod.snd h
    cases m <;> (unfold lin at h1 h2; dsimp only at h1 h2; exact Prod.ext (by omega) (by omega))
  · rintro rfl; rfl
theorem lin_neg (m : Mv) (u : P2) : neg2 (lin m u) = lin m (neg2 u) := by
  cases m <;> (unfold neg2 lin; dsimp only) <;> (refine Prod.ext ?_ ?_ <;> dsimp only)
theorem lin_zero (m : Mv) {u : P2} : lin m u = (0, 0) ↔ u = (0, 0) := by
  rw [show ((0 : Int), (0 : Int)) = lin m (0, 0) by cases m <;> rfl, lin_inj]
  cases m <;> rfl
theorem neg_div {x g : Int} (h : g ∣ x) : (0 - x) / g = 0 - x / g := by
  rw [Int.zero_sub, Int.zero_sub, Int.neg_ediv_of_dvd h]
theorem low_lin (m : Mv) (u : P2) : low (lin m u) = lin m (low u) := by
  have d1 : (Int.gcd u.1 u.2 : Int) ∣ u.1 := Int.gcd_dvd_left ..
  have d2 : (Int.gcd u.1 u.2 : Int) ∣ u.2 := Int.gcd_dvd_right ..
  cases m with
  | shift t => rfl
  | turn =>
    unfold low lin
    dsimp only
    rw [show Int.gcd (0 - u.2) u.1 = Int.gcd u.1 u.2 by rw [Int.zero_sub, Int.neg_gcd, Int.gcd_comm], neg_div d2]
  | mirror =>
    unfold low lin
    dsimp only
    rw [show Int.gcd (0 - u.1) u.2 = Int.gcd u.1 u.2 by rw [Int.zero_sub, Int.neg_gcd], neg_div d1]
theorem outw_mv (m : Mv) (a b : P2) : outw (mvP m a) (mvP m b) = match m with | .mirror => lin m (outw b a) | _ => lin m (outw a b) := by
  cases m with
  | shift t =>
    unfold outw
    rw [dif_mv]
    rfl
  | turn =>
    unfold outw
    rw [dif_mv]
    dsimp only
    rw [← low_lin]
    congr 1
    unfold lin dif
    dsimp only
    exact Prod.ext (by omega) (by omega)
  | mirror =>
    unfold outw
    rw [dif_mv]
    dsimp only
    rw [← low_lin]
    congr 1
    unfold lin dif
    dsimp only
    exact Prod.ext (by omega) (by omega)
theorem far_mv (m : Mv) (a b : P2) : far (mvP m a) (mvP m b) = far a b := by
  unfold far
  rw [dif_mv, dot_lin]
theorem lenq_lin (m : Mv) (u : P2) : lenq (lin m u) = lenq u := by
  unfold lenq
  rw [dot_lin]
theorem faces_mv (m : Mv) {T : Th} (hT : GoodTh T) {f : Fc} (hf : f ∈ facesL T) (hs : ∀ p, T ≠ .spot p) : mvF m f ∈ facesL (mvT m T) := by
  cases T with
  | spot p => exact absurd rfl (hs p)
  | cord p q =>
    simp only [facesL, List.mem_cons, List.not_mem_nil, or_false] at hf
    cases m <;> (rcases hf with h | h | h | h <;> subst h <;> simp only [mvF, mvT, facesL, outw_mv, List.mem_cons, List.not_mem_nil, or_false, true_or, or_true])
  | bow c p q =>
    have far2 : far c p = far c q := hT.2.2.2.eq
    simp only [facesL, List.mem_cons, List.not_mem_nil, or_false] at hf
    cases m <;> (rcases hf with h | h | h | h <;> subst h <;> simp only [mvF, mvT, facesL, outw_mv, dif_mv, low_lin, far_mv, far2, List.mem_cons, List.not_mem_nil, or_false, true_or, or_true])
theorem outI_mv (m : Mv) (f l u : P2) : (match m with | .mirror => outI (lin m l) (lin m f) (lin m u) | _ => outI (lin m f) (lin m l) (lin m u)) ↔ outI f l u := by
  unfold outI
  cases m with
  | shift t => exact Iff.rfl
  | turn => dsimp only; rw [lin_inj, crs_lin, crs_lin]
  | mirror =>
    dsimp only
    rw [lin_inj, crs_lin, crs_lin]
    dsimp only
    constructor
    · rintro (h | ⟨a, b⟩)
      · exact .inl h.symm
      · exact .inr ⟨b, a⟩
    · rintro (h | ⟨a, b⟩)
      · exact .inl h.symm
      · exact .inr ⟨b, a⟩
theorem beside_int (a b c : P2) : besideR (toR c) a b ↔ 0 ≤ dot (dif c a) (dif b a) ∧ dot (dif c a) (dif b a) ≤ dot (dif b a) (dif b a) := by
  have e : dotR (difR (toR c) a) (dif b a) = ((dot (dif c a) (dif b a) : Int) : Rat) := by
    unfold dotR difR toR dot
    dsimp only
    rw [Rat.intCast_add, Rat.intCast_mul, Rat.intCast_mul]
    unfold dif
    dsimp only
    rw [Rat.intCast_sub c.1, Rat.intCast_sub c.2]
  unfold besideR
  rw [e, Rat.intCast_nonneg, Rat.intCast_le_intCast]
theorem side_perp {a b : P2} (h : a ≠ b) : dot (dif b a) (outw a b) = 0 := by
  obtain ⟨G, g0, e1, e2⟩ := side_rel h
  have z : G * dot (dif b a) (outw a b) = 0 := by
    unfold dot
    have : G * ((dif b a).1 * (outw a b).1 + (dif b a).2 * (outw a b).2) = (dif b a).1 * (G * (outw a b).1) + (dif b a).2 * (G * (outw a b).2) := by grind
    rw [this, ← e1, ← e2]
    grind
  rcases Int.mul_eq_zero.mp z with w | w
  · omega
  · exact w
theorem side_mv (m : Mv) {a b : P2} (hne : a ≠ b) (c : P2) (r : Int) (f l : P2) : farP (mvF m (.side a b)) (mvF m (.round c r f l)) = farP (.side a b) (.round c r f l) := by
  have hp := side_perp hne
  cases m with
  | shift t =>
    show sideP _ _ _ _ _ _ = sideP _ _ _ _ _ _
    unfold sideP
    simp only [beside_int, dif_mv, outw_mv, lin]
  | turn =>
    show sideP _ _ _ _ _ _ = sideP _ _ _ _ _ _
    have k := outI_mv .turn f l (neg2 (outw a b))
    dsimp only at k
    unfold sideP
    simp only [beside_int, dif_mv, outw_mv, dot_lin, lin_neg, lenq_lin, k]
  | mirror =>
    show sideP _ _ _ _ _ _ = sideP _ _ _ _ _ _
    have k := outI_mv .mirror f l (neg2 (outw a b))
    dsimp only at k
    have e1 : dot (dif c b) (outw a b) = dot (dif c a) (outw a b) := by
      unfold dot dif at *
      dsimp only at *
      grind
    have e2 : (0 ≤ dot (dif c b) (dif a b) ∧ dot (dif c b) (dif a b) ≤ dot (dif a b) (dif a b)) ↔ (0 ≤ dot (dif c a) (dif b a) ∧ dot (dif c a) (dif b a) ≤ dot (dif b a) (dif b a)) := by
      have : dot (dif c b) (dif a b) = dot (dif b a) (dif b a) - dot (dif c a) (dif b a) := by unfold dot dif; dsimp only; grind
      have h2 : dot (dif a b) (dif a b) = dot (dif b a) (dif b a) := by unfold dot dif; dsimp only; grind
      rw [this, h2]
      constructor <;> (rintro ⟨_, _⟩; exact ⟨by omega, by omega⟩)
    unfold sideP
    simp only [beside_int, dif_mv, outw_mv, dot_lin, lin_neg, lenq_lin, k, e1, e2]
theorem round_mv (m : Mv) (c1 : P2) (r1 : Int) (f1 l1 c2 : P2) (r2 : Int) (f2 l2 : P2) : farP (mvF m (.round c1 r1 f1 l1)) (mvF m (.round c2 r2 f2 l2)) = farP (.round c1 r1 f1 l1) (.round c2 r2 f2 l2) := by
  have k1 := outI_mv m f1 l1 (dif c2 c1)
  have k2 := outI_mv m f2 l2 (neg2 (dif c2 c1))
  cases m <;> (show roundP _ _ _ _ _ _ _ _ = roundP _ _ _ _ _ _ _ _; dsimp only at k1 k2; unfold roundP; simp only [dif_mv, lin_zero, lin_neg, dot_lin, k1, k2])
theorem outI_all {f l u : P2} (h : f = l) : outI f l u := .inl h
theorem far_full1 {c f l f' l' : P2} {r : Int} (h : f = l) (h' : f' = l') (g : Fc) : farP (.round c r f l) g = farP (.round c r f' l') g := by
  cases g with
  | side a b =>
    show sideP _ _ _ _ _ _ = sideP _ _ _ _ _ _
    unfold sideP
    simp only [outI_all h, outI_all h']
  | round c2 r2 f2 l2 =>
    show roundP _ _ _ _ _ _ _ _ = roundP _ _ _ _ _ _ _ _
    unfold roundP
    simp only [outI_all h, outI_all h']
theorem far_full2 {c f l f' l' : P2} {r : Int} (h : f = l) (h' : f' = l') (g : Fc) : farP g (.round c r f l) = farP g (.round c r f' l') := by
  cases g with
  | side a b =>
    show sideP _ _ _ _ _ _ = sideP _ _ _ _ _ _
    unfold sideP
    simp only [outI_all h, outI_all h']
  | round c2 r2 f2 l2 =>
    show roundP _ _ _ _ _ _ _ _ = roundP _ _ _ _ _ _ _ _
    unfold roundP
    simp only [outI_all h, outI_all h']
theorem face_to (m : Mv) {T : Th} (hT : GoodTh T) {f : Fc} (hf : f ∈ facesL T) : ∃ f' ∈ facesL (mvT m T), (∀ g, farP f' g = farP (mvF m f) g) ∧ ∀ g, farP g f' = farP g (mvF m f) := by
  by_cases hs : ∃ p, T = .spot p
  · obtain ⟨p, rfl⟩ := hs
    simp only [facesL, List.mem_cons, List.not_mem_nil, or_false] at hf
    subst hf
    refine ⟨.round (mvP m p) 0 (1, 0) (1, 0), by simp [mvT, facesL], fun g => ?_, fun g => ?_⟩
    · cases m <;> exact far_full1 rfl rfl g
    · cases m <;> exact far_full2 rfl rfl g
  · exact ⟨_, faces_mv m hT hf fun p z => hs ⟨p, z⟩, fun _ => rfl, fun _ => rfl⟩
theorem far_mvF (m : Mv) {A B : Th} (hA : GoodTh A) (hB : GoodTh B) {f g : Fc} (hf : f ∈ facesL A) (hg : g ∈ facesL B) : farP (mvF m f) (mvF m g) = farP f g := by
  cases f with
  | side a b =>
    have ne := (faces_good hA _ hf).1
    cases g with
    | side c d => cases m <;> rfl
    | round c r f l => exact side_mv m ne c r f l
  | round c r f l =>
    cases g with
    | side a b =>
      have ne := (faces_good hB _ hg).1
      have := side_mv m ne c r f l
      cases m <;> exact this
    | round c2 r2 f2 l2 => exact round_mv m c r f l c2 r2 f2 l2
/-! the told distance -/
noncomputable def firstP (A B : Th) : Option Rt := (facesL A).findSome? fun f => (facesL B).findSome? fun g => match farP f g with
  | some ρ => if 0 < sg (val ρ) then some ρ else none
  | none => none
noncomputable def apR (A B : Th) : Rt := (firstP A B).getD ⟨0, 0, 0⟩
theorem sg_pos_iff {x : Real} : 0 < sg x ↔ 0 < x := by
  rcases sg_cases x with ⟨a, b⟩ | ⟨a, b⟩ | ⟨a, b⟩
  · rw [b]; exact ⟨fun _ => a, fun _ => by decide⟩
  · rw [b]; exact ⟨fun z => absurd z (by decide), fun z => by rw [a] at z; grind⟩
  · rw [b]; exact ⟨fun z => absurd z (by decide), fun z => by grind⟩
theorem apR_cases (A B : Th) : (∃ f ∈ facesL A, ∃ g ∈ facesL B, ∃ ρ, farP f g = some ρ ∧ 0 < val ρ ∧ apR A B = ρ) ∨ (apR A B = ⟨0, 0, 0⟩ ∧ ∀ f ∈ facesL A, ∀ g ∈ facesL B, ∀ ρ, farP f g = some ρ → ¬ 0 < val ρ) := by
  unfold apR
  cases h : firstP A B with
  | some ρ =>
    left
    obtain ⟨f, hf, h1⟩ := List.exists_of_findSome?_eq_some h
    obtain ⟨g, hg, h2⟩ := List.exists_of_findSome?_eq_some h1
    refine ⟨f, hf, g, hg, ?_⟩
    cases e : farP f g with
    | none => rw [e] at h2; cases h2
    | some ρ' =>
      rw [e] at h2
      dsimp only at h2
      split at h2
      · rename_i hp
        cases h2
        exact ⟨ρ, rfl, sg_pos_iff.mp hp, rfl⟩
      · cases h2
  | none =>
    right
    refine ⟨rfl, fun f hf g hg ρ e hp => ?_⟩
    have h1 := List.findSome?_eq_none_iff.mp h f hf
    have h2 := List.findSome?_eq_none_iff.mp h1 g hg
    rw [e] at h2
    dsimp only at h2
    rw [if_pos (sg_pos_iff.mpr hp)] at h2
    cases h2
theorem ap_ok (A B : Th) : Ok (apR A B) ∧ Cn (apR A B) := by
  rcases apR_cases A B with ⟨f, _, g, _, ρ, h, _, e⟩ | ⟨e, _⟩
  · rw [e]; exact far_ok h
  · rw [e]; exact ⟨ok_fr0 0, cn_fr0 0⟩
theorem ap_lb {A B : Th} (hA : GoodTh A) (hB : GoodTh B) : 0 ≤ val (apR A B) ∧ ∀ x y z w, InS A x y → InS B z w → val (apR A B) * val (apR A B) ≤ (z - x) * (z - x) + (w - y) * (w - y) := by
  rcases apR_cases A B with ⟨f, hf, g, hg, ρ, h, hp, e⟩ | ⟨e, _⟩
  · rw [e]
    have a := pair_apt hA hB hf hg h hp
    exact ⟨a.nn, a.lb⟩
  · rw [e, val_fr, Real.of_zero]
    refine ⟨by grind, fun x y z w _ _ => ?_⟩
    have := Real.sq_nn (z - x)
    have := Real.sq_nn (w - y)
    grind
/-- points moved along -/
def mvX : Mv → Real → Real → Real
  | .shift t, x, _ => x + o t.1
  | .turn, _, y => -y
  | .mirror, x, _ => -x
def mvY : Mv → Real → Real → Real
  | .shift t, _, y => y + o t.2
  | .turn, x, _ => x
  | .mirror, _, y => y
theorem mv_o (m : Mv) (p : P2) : o (mvP m p).1 = mvX m (o p.1) (o p.2) ∧ o (mvP m p).2 = mvY m (o p.1) (o p.2) := by
  cases m with
  | shift t => exact ⟨o_add .., o_add ..⟩
  | turn => exact ⟨by show o (0 - p.2) = - o p.2; rw [o_sub, o_0] <;> grind, rfl⟩
  | mirror => exact ⟨by show o (0 - p.1) = - o p.1; rw [o_sub, o_0] <;> grind, rfl⟩
theorem ins_mv (m : Mv) {T : Th} (hT : GoodTh T) {x y : Real} (h : InS T x y) : InS (mvT m T) (mvX m x y) (mvY m x y) := by
  cases T with
  | spot p =>
    obtain ⟨rfl, rfl⟩ := h
    obtain ⟨a, b⟩ := mv_o m p
    exact ⟨a.symm, b.symm⟩
  | cord p q =>
    obtain ⟨s, s0, s1, rfl, rfl⟩ := h
    obtain ⟨a, b⟩ := mv_o m p
    obtain ⟨c, d⟩ := mv_o m q
    refine ⟨s, s0, s1, ?_, ?_⟩
    · rw [a, c]; cases m <;> (unfold mvX; dsimp only) <;> grind
    · rw [b, d]; cases m <;> (unfold mvY; dsimp only) <;> grind
  | bow c p q =>
    have far2 : far c p = far c q := hT.2.2.2.eq
    obtain ⟨h1, h2⟩ := h
    obtain ⟨a, b⟩ := mv_o m p
    obtain ⟨a2, b2⟩ := mv_o m q
    obtain ⟨a3, b3⟩ := mv_o m c
    cases m with
    | shift t =>
      refine ⟨?_, ?_⟩
      · rw [far_mv, a3, b3]; unfold mvX mvY; dsimp only; grind
      · rw [a, b, a2, b2]; unfold mvX mvY; dsimp only; grind
    | turn =>
      refine ⟨?_, ?_⟩
      · rw [far_mv, a3, b3]; unfold mvX mvY; dsimp only; grind
      · rw [a, b, a2, b2]; unfold mvX mvY; dsimp only; grind
    | mirror =>
      refine ⟨?_, ?_⟩
      · rw [far_mv, ← far2, a3, b3]; unfold mvX mvY; dsimp only; grind
      · rw [a, b, a2, b2]; unfold mvX mvY; dsimp only; grind
theorem far_pos (m : Mv) {A B : Th} (hA : GoodTh A) (hB : GoodTh B) (hp : 0 < val (apR A B)) : 0 < val (apR (mvT m A) (mvT m B)) := by
  rcases apR_cases A B with ⟨f, hf, g, hg, ρ, h, hp', e⟩ | ⟨e, _⟩
  · obtain ⟨f', hf', f1, _⟩ := face_to m hA hf
    obtain ⟨g', hg', _, g2⟩ := face_to m hB hg
    have hh : farP f' g' = some ρ := by rw [f1, g2, far_mvF m hA hB hf hg, h]
    rcases apR_cases (mvT m A) (mvT m B) with ⟨_, _, _, _, ρ2, _, hp2, e2⟩ | ⟨_, n⟩
    · rw [e2]; exact hp2
    · exact absurd hp' (n f' hf' g' hg' ρ hh)
  · rw [e, val_fr, Real.of_zero] at hp
    grind
end Rs

namespace Rs
open Lb Ld Rl
/-- unlike roots in form have unlike values -/
theorem val_inj' {x y : Rt} (hx : Ok x) (hy : Ok y) (cx : Cn x) (cy : Cn y) (h : val x = val y) : x = y := by
  have su : Real.of (x.s : Rat) * rtq x.q * (Real.of (x.s : Rat) * rtq x.q) = Real.of x.q := by rw [← s_sq hx]; grind
  have sv : Real.of (y.s : Rat) * rtq y.q * (Real.of (y.s : Rat) * rtq y.q) = Real.of y.q := by rw [← s_sq hy]; grind
  have e := nrm4_eq (d := x.b - y.b) su sv
  have z : Real.of (x.b - y.b) + Real.of (x.s : Rat) * rtq x.q - Real.of (y.s : Rat) * rtq y.q = 0 := by
    unfold val at h
    rw [Real.of_sub]
    grind
  rw [z] at e
  have n0 : nrm4 (x.b - y.b) x.q y.q = 0 := by
    rw [← Real.of_inj, ← e, Real.of_zero]
    grind
  rcases nrm4_zero hx hy cx cy n0 with e | ⟨e1, e2, e3, e4⟩
  · exact e
  · have rp := rtq_pos (hx.p e3)
    have : Real.of ((-y.s : Int) : Rat) = - Real.of (y.s : Rat) := ofI_neg _
    rw [← e4] at this
    unfold val at h
    have hb : Real.of x.b = Real.of y.b := by rw [e1]
    have hq : rtq x.q = rtq y.q := by rw [e2]
    rw [hq] at rp
    have w : Real.of (x.s : Rat) * rtq y.q = 0 := by
      rw [hb, hq] at h
      have w2 : Real.of (x.s : Rat) * rtq y.q + Real.of (x.s : Rat) * rtq y.q = 0 := by
        have e5 : Real.of (x.s : Rat) * rtq y.q = - (Real.of (y.s : Rat) * rtq y.q) := by rw [this]; grind
        clear e su sv z n0
        generalize Real.of (x.s : Rat) * rtq y.q = u at *
        generalize Real.of (y.s : Rat) * rtq y.q = v at *
        grind
      generalize Real.of (x.s : Rat) * rtq y.q = u at w2 ⊢
      rcases Real.tri' u 0 with z | z | z
      · grind
      · exact z
      · grind
    rcases hx.s with s | s | s
    · rw [s, of_intm1] at w; grind
    · exact absurd s e3
    · rw [s, of_int1] at w; grind
theorem mv_len (m : Mv) (x y z w : Real) : (mvX m z w - mvX m x y) * (mvX m z w - mvX m x y) + (mvY m z w - mvY m x y) * (mvY m z w - mvY m x y) = (z - x) * (z - x) + (w - y) * (w - y) := by
  cases m <;> (unfold mvX mvY; dsimp only) <;> grind
def mvR : Mv → R2 → R2
  | .shift t, P => (P.1 + t.1, P.2 + t.2)
  | .turn, P => (-P.2, P.1)
  | .mirror, P => (-P.1, P.2)
theorem mv_of (m : Mv) (P : R2) : Real.of (mvR m P).1 = mvX m (Real.of P.1) (Real.of P.2) ∧ Real.of (mvR m P).2 = mvY m (Real.of P.1) (Real.of P.2) := by
  cases m with
  | shift t => exact ⟨Real.of_add .., Real.of_add ..⟩
  | turn => exact ⟨Real.of_neg _, rfl⟩
  | mirror => exact ⟨Real.of_neg _, rfl⟩
/-! one step does not make it farther -/
theorem dist_step (m : Mv) {T : Th} (hT : GoodTh T) (hT' : GoodTh (mvT m T)) (P : R2) : val (distR (mvT m T) (mvR m P)) ≤ val (distR T P) := by
  obtain ⟨a, _⟩ := dist_nst hT P
  obtain ⟨b, _⟩ := dist_nst hT' (mvR m P)
  obtain ⟨x, y, hx, e⟩ := a.at_
  have l := b.lb _ _ (ins_mv m hT hx)
  obtain ⟨e1, e2⟩ := mv_of m P
  rw [e1, e2, mv_len, e] at l
  exact ge_of_sq a.nn b.nn l
theorem ap_step (m : Mv) {A B : Th} (hA : GoodTh A) (hB : GoodTh B) (hA' : GoodTh (mvT m A)) (hB' : GoodTh (mvT m B)) (hp : 0 < val (apR A B)) : 0 < val (apR (mvT m A) (mvT m B)) ∧ val (apR (mvT m A) (mvT m B)) ≤ val (apR A B) := by
  refine ⟨far_pos m hA hB hp, ?_⟩
  rcases apR_cases A B with ⟨f, hf, g, hg, ρ, h, hp', e⟩ | ⟨e, _⟩
  · have a := pair_apt hA hB hf hg h hp'
    rw [← e] at a
    obtain ⟨b0, bl⟩ := ap_lb hA' hB'
    obtain ⟨x, y, z, w, h1, h2, e1⟩ := a.at_
    have l := bl _ _ _ _ (ins_mv m hA h1) (ins_mv m hB h2)
    rw [mv_len, e1] at l
    exact ge_of_sq a.nn b0 l
  · rw [e, val_fr, Real.of_zero] at hp
    grind
/-! and back -/
theorem inv_mirror (T : Th) : mvT .mirror (mvT .mirror T) = T := by
  have e : ∀ p : P2, mvP .mirror (mvP .mirror p) = p := fun p => by unfold mvP; exact Prod.ext (by dsimp only; omega) rfl
  cases T <;> simp only [mvT, e]
theorem inv_shift (t : P2) (T : Th) : mvT (.shift (neg2 t)) (mvT (.shift t) T) = T := by
  have e : ∀ p : P2, mvP (.shift (neg2 t)) (mvP (.shift t) p) = p := fun p => by unfold mvP neg2; exact Prod.ext (by dsimp only; omega) (by dsimp only; omega)
  cases T <;> simp only [mvT, e]
theorem inv_turn (T : Th) : mvT .turn (mvT .turn (mvT .turn (mvT .turn T))) = T := by
  have e : ∀ p : P2, mvP .turn (mvP .turn (mvP .turn (mvP .turn p))) = p := fun p => by unfold mvP; exact Prod.ext (by dsimp only; omega) (by dsimp only; omega)
  cases T <;> simp only [mvT, e]
theorem inv_mirrorR (P : R2) : mvR .mirror (mvR .mirror P) = P := by
  unfold mvR
  exact Prod.ext (by dsimp only; grind) rfl
theorem inv_shiftR (t : P2) (P : R2) : mvR (.shift (neg2 t)) (mvR (.shift t) P) = P := by
  unfold mvR neg2
  refine Prod.ext ?_ ?_ <;> dsimp only <;> rw [Rat.intCast_sub] <;> grind
theorem inv_turnR (P : R2) : mvR .turn (mvR .turn (mvR .turn (mvR .turn P))) = P := by
  unfold mvR
  exact Prod.ext (by dsimp only; grind) (by dsimp only; grind)
theorem good_turn {T : Th} (h : GoodTh T) : GoodTh (mvT .turn T) := by
  have b : ∀ {p : P2}, Bd p → Bd (mvP .turn p) := fun {p} h => ⟨by have := h.2; show (0 - p.2).natAbs ≤ 1000; omega, h.1⟩
  have ne : ∀ {p q : P2}, p ≠ q → mvP .turn p ≠ mvP .turn q := fun {p q} h z => h (by
    have z1 := congrArg Prod.fst z
    have z2 := congrArg Prod.snd z
    unfold mvP at z1 z2
    dsimp only at z1 z2
    exact Prod.ext (by omega) (by omega))
  cases T with
  | spot p => exact b h
  | cord p q => exact ⟨b h.1, b h.2.1, ne h.2.2.1, by rw [far_mv]; exact h.2.2.2⟩
  | bow c p q =>
    obtain ⟨h1, h2, h3, h4⟩ := h
    exact ⟨b h1, b h2, b h3, ne h4.ne, by rw [far_mv, far_mv]; exact h4.eq, by rw [far_mv]; exact h4.wr, by rw [far_mv]; exact h4.wd, by rw [dif_mv, dif_mv, crs_lin]; exact h4.tn⟩
theorem good_mirror {T : Th} (h : GoodTh T) : GoodTh (mvT .mirror T) := by
  have b : ∀ {p : P2}, Bd p → Bd (mvP .mirror p) := fun {p} h => ⟨by have := h.1; show (0 - p.1).natAbs ≤ 1000; omega, h.2⟩
  have ne : ∀ {p q : P2}, p ≠ q → mvP .mirror p ≠ mvP .mirror q := fun {p q} h z => h (by
    have z1 := congrArg Prod.fst z
    have z2 := congrArg Prod.snd z
    unfold mvP at z1 z2
    dsimp only at z1 z2
    exact Prod.ext (by omega) (by omega))
  cases T with
  | spot p => exact b h
  | cord p q => exact ⟨b h.1, b h.2.1, ne h.2.2.1, by rw [far_mv]; exact h.2.2.2⟩
  | bow c p q =>
    obtain ⟨h1, h2, h3, h4⟩ := h
    exact ⟨b h1, b h3, b h2, ne (Ne.symm h4.ne), by rw [far_mv, far_mv]; exact h4.eq.symm, by rw [far_mv, ← h4.eq]; exact h4.wr, by
      rw [far_mv, show far q p = far p q by unfold far dot dif; dsimp only; grind]; exact h4.wd, by rw [dif_mv, dif_mv, crs_lin]; exact h4.tn⟩
def ptsOf : Th → List P2
  | .spot p => [p]
  | .cord p q => [p, q]
  | .bow c p q => [c, p, q]
theorem good_shift {T : Th} {t : P2} (h : GoodTh T) (hb : ∀ p ∈ ptsOf T, Bd (mvP (.shift t) p)) : GoodTh (mvT (.shift t) T) := by
  have ne : ∀ {p q : P2}, p ≠ q → mvP (.shift t) p ≠ mvP (.shift t) q := fun {p q} h z => h (by
    have z1 := congrArg Prod.fst z
    have z2 := congrArg Prod.snd z
    unfold mvP at z1 z2
    dsimp only at z1 z2
    exact Prod.ext (by omega) (by omega))
  cases T with
  | spot p => exact hb p (by simp [ptsOf])
  | cord p q => exact ⟨hb p (by simp [ptsOf]), hb q (by simp [ptsOf]), ne h.2.2.1, by rw [far_mv]; exact h.2.2.2⟩
  | bow c p q =>
    obtain ⟨h1, h2, h3, h4⟩ := h
    exact ⟨hb c (by simp [ptsOf]), hb p (by simp [ptsOf]), hb q (by simp [ptsOf]), ne h4.ne, by rw [far_mv, far_mv]; exact h4.eq, by rw [far_mv]; exact h4.wr, by rw [far_mv]; exact h4.wd, by rw [dif_mv, dif_mv, crs_lin]; exact h4.tn⟩
theorem dist_two {m m' : Mv} {T : Th} {P : R2} (hT : GoodTh T) (hT' : GoodTh (mvT m T)) (e : mvT m' (mvT m T) = T) (eP : mvR m' (mvR m P) = P) : distR (mvT m T) (mvR m P) = distR T P := by
  have a := dist_step m hT hT' P
  have b := dist_step m' hT' (by rw [e]; exact hT) (mvR m P)
  rw [e, eP] at b
  exact val_inj' (dist_ok _ _).1 (dist_ok _ _).1 (dist_ok _ _).2 (dist_ok _ _).2 (by grind)
theorem dist_turn {T : Th} (hT : GoodTh T) (P : R2) : distR (mvT .turn T) (mvR .turn P) = distR T P := by
  have g1 := good_turn hT
  have g2 := good_turn g1
  have g3 := good_turn g2
  have a := dist_step .turn hT g1 P
  have b := dist_step .turn g1 g2 (mvR .turn P)
  have c := dist_step .turn g2 g3 (mvR .turn (mvR .turn P))
  have d := dist_step .turn g3 (by rw [inv_turn]; exact hT) (mvR .turn (mvR .turn (mvR .turn P)))
  rw [inv_turn, inv_turnR] at d
  exact val_inj' (dist_ok _ _).1 (dist_ok _ _).1 (dist_ok _ _).2 (dist_ok _ _).2 (by grind)
theorem ap_two {m m' : Mv} {A B : Th} (hA : GoodTh A) (hB : GoodTh B) (hA' : GoodTh (mvT m A)) (hB' : GoodTh (mvT m B)) (eA : mvT m' (mvT m A) = A) (eB : mvT m' (mvT m B) = B) : apR (mvT m A) (mvT m B) = apR A B := by
  have n0 := (ap_lb hA hB).1
  have n1 := (ap_lb hA' hB').1
  refine val_inj' (ap_ok _ _).1 (ap_ok _ _).1 (ap_ok _ _).2 (ap_ok _ _).2 ?_
  have back : 0 < val (apR (mvT m A) (mvT m B)) → 0 < val (apR A B) ∧ val (apR A B) ≤ val (apR (mvT m A) (mvT m B)) := fun h => by
    have := ap_step m' hA' hB' (by rw [eA]; exact hA) (by rw [eB]; exact hB) h
    rw [eA, eB] at this
    exact this
  rcases Real.tri' (val (apR A B)) 0 with z | z | z
  · grind
  · rcases Real.tri' (val (apR (mvT m A) (mvT m B))) 0 with w | w | w
    · grind
    · grind
    · have := (back w).1
      grind
  · obtain ⟨p, q⟩ := ap_step m hA hB hA' hB' z
    have := (back p).2
    grind
theorem ap_turn {A B : Th} (hA : GoodTh A) (hB : GoodTh B) : apR (mvT .turn A) (mvT .turn B) = apR A B := by
  have a1 := good_turn hA
  have a2 := good_turn a1
  have a3 := good_turn a2
  have b1 := good_turn hB
  have b2 := good_turn b1
  have b3 := good_turn b2
  have n0 := (ap_lb hA hB).1
  have n1 := (ap_lb a1 b1).1
  refine val_inj' (ap_ok _ _).1 (ap_ok _ _).1 (ap_ok _ _).2 (ap_ok _ _).2 ?_
  have back : 0 < val (apR (mvT .turn A) (mvT .turn B)) → 0 < val (apR A B) ∧ val (apR A B) ≤ val (apR (mvT .turn A) (mvT .turn B)) := fun h => by
    obtain ⟨p2, q2⟩ := ap_step .turn a1 b1 a2 b2 h
    obtain ⟨p3, q3⟩ := ap_step .turn a2 b2 a3 b3 p2
    have := ap_step .turn a3 b3 (by rw [inv_turn]; exact hA) (by rw [inv_turn]; exact hB) p3
    rw [inv_turn, inv_turn] at this
    exact ⟨this.1, by have := this.2; grind⟩
  rcases Real.tri' (val (apR A B)) 0 with z | z | z
  · grind
  · rcases Real.tri' (val (apR (mvT .turn A) (mvT .turn B))) 0 with w | w | w
    · grind
    · grind
    · have := (back w).1
      grind
  · obtain ⟨p, q⟩ := ap_step .turn hA hB a1 b1 z
    have := (back p).2
    grind
/-! how distances fit -/
theorem triangle {x y z w u v a b : Real} (ha : 0 ≤ a) (hb : 0 ≤ b) (h1 : (u - x) * (u - x) + (v - y) * (v - y) = a * a) (h2 : (u - z) * (u - z) + (v - w) * (v - w) = b * b) : (z - x) * (z - x) + (w - y) * (w - y) ≤ (a + b) * (a + b) := by
  have c := cauchy (x := u - x) (y := v - y) (u := z - u) (v := w - v) ha hb (by grind) (by grind)
  grind
theorem fit_gap {A B : Th} (hA : GoodTh A) (hB : GoodTh B) (P : R2) : val (apR A B) ≤ val (distR A P) + val (distR B P) := by
  obtain ⟨a, _⟩ := dist_nst hA P
  obtain ⟨b, _⟩ := dist_nst hB P
  obtain ⟨n, l⟩ := ap_lb hA hB
  obtain ⟨x, y, hx, e1⟩ := a.at_
  obtain ⟨z, w, hz, e2⟩ := b.at_
  have l1 := l _ _ _ _ hx hz
  have t := triangle a.nn b.nn e1 e2
  have := a.nn
  have := b.nn
  exact ge_of_sq (by grind) n (by grind)
theorem fit_way {A : Th} (hA : GoodTh A) (P Q : R2) {q : Rat} (hq : q = (P.1 - Q.1) * (P.1 - Q.1) + (P.2 - Q.2) * (P.2 - Q.2)) : val (distR A P) ≤ val (distR A Q) + rtq q := by
  obtain ⟨a, _⟩ := dist_nst hA P
  obtain ⟨b, _⟩ := dist_nst hA Q
  obtain ⟨z, w, hz, e2⟩ := b.at_
  have l1 := a.lb _ _ hz
  have q0 : 0 ≤ q := by
    rw [hq]
    have := Lb.sq_nonneg (P.1 - Q.1)
    have := Lb.sq_nonneg (P.2 - Q.2)
    grind
  have rn := rtq_nn q
  have rs := rtq_sq q0
  have es : Real.of q = (Real.of P.1 - Real.of Q.1) * (Real.of P.1 - Real.of Q.1) + (Real.of P.2 - Real.of Q.2) * (Real.of P.2 - Real.of Q.2) := by
    rw [hq, Real.of_add, Real.of_mul, Real.of_mul, Real.of_sub, Real.of_sub]
  have t := triangle (x := z) (y := w) (z := Real.of P.1) (w := Real.of P.2) (u := Real.of Q.1) (v := Real.of Q.2) b.nn rn e2 (by rw [rs, es]; grind)
  have := b.nn
  exact ge_of_sq (by grind) a.nn (by grind)
/-- a root by whole numbers -/
theorem part_val {x : Rt} (hx : Ok x) {S : Int} (hS : 0 < S) : Real.of ((x.b.num * S / (x.b.den : Int) + x.s * ((isq (x.q.num * S * S / (x.q.den : Int)).toNat : Nat) : Int) : Int) : Rat) - 1 ≤ val x * o S ∧ val x * o S < Real.of ((x.b.num * S / (x.b.den : Int) + x.s * ((isq (x.q.num * S * S / (x.q.den : Int)).toNat : Nat) : Int) : Int) : Rat) + 2 := by
  have pb := den_pos x.b
  have pq := den_pos x.q
  have q0 := Rat.num_nonneg.mpr hx.q0
  obtain ⟨h1, h2⟩ := base_between x.b S (x.b.num * S / (x.b.den : Int)) pb (Int.ediv_mul_le _ (by omega)) (Int.lt_ediv_add_one_mul_self _ pb)
  have N0 : 0 ≤ x.q.num * S * S := Int.mul_nonneg (Int.mul_nonneg q0 (by omega)) (by omega)
  have f0 : 0 ≤ x.q.num * S * S / (x.q.den : Int) := Int.ediv_nonneg N0 (by omega)
  have d1 := Int.ediv_mul_le (x.q.num * S * S) (show (x.q.den : Int) ≠ 0 by omega)
  have d2 := Int.lt_ediv_add_one_mul_self (x.q.num * S * S) pq
  obtain ⟨g1, g2⟩ := isq_spec (x.q.num * S * S / (x.q.den : Int)).toNat
  generalize x.b.num * S / (x.b.den : Int) = F at *
  generalize x.q.num * S * S / (x.q.den : Int) = N at *
  generalize isq N.toNat = R at *
  have G1 : ((R : Nat) : Int) * ((R : Nat) : Int) ≤ N := by
    have : ((R * R : Nat) : Int) ≤ (N.toNat : Int) := by exact_mod_cast g1
    rw [Int.natCast_mul] at this
    omega
  have G2 : N + 1 ≤ (((R : Nat) : Int) + 1) * (((R : Nat) : Int) + 1) := by
    have : (N.toNat : Int) < ((R : Int) + 1) * ((R : Int) + 1) := by exact_mod_cast g2
    omega
  have e3 := num_den x.q
  have rs := rtq_sq hx.q0
  have rn := rtq_nn x.q
  have D0 : 0 < o (x.q.den : Int) := o_pos pq
  have S0 := o_pos hS
  have eN : o (x.q.num * S * S) = rtq x.q * o S * (rtq x.q * o S) * o (x.q.den : Int) := by
    rw [o_mul, o_mul, o_cast x.q.num, ← e3, Real.of_mul, ← rs]
    show _ = _
    rw [o_cast (x.q.den : Int)]
    grind
  have a1 := o_le.mpr d1
  have a2 := ofI_lt.mpr d2
  rw [o_mul, eN] at a1
  have a2' : rtq x.q * o S * (rtq x.q * o S) * o (x.q.den : Int) < (o N + 1) * o (x.q.den : Int) := by
    rw [← eN, ← o_1, ← o_add, ← o_mul]
    exact a2
  have b1 : o N ≤ rtq x.q * o S * (rtq x.q * o S) := le_of_mul D0 a1
  have b2 : rtq x.q * o S * (rtq x.q * o S) < o N + 1 := by
    rcases Real.tri' (rtq x.q * o S * (rtq x.q * o S)) (o N + 1) with z | z | z
    · exact z
    · rw [z] at a2'; grind
    · have := Real.mul_pos (show 0 < rtq x.q * o S * (rtq x.q * o S) - (o N + 1) by grind) D0
      grind
  have c1 := o_le.mpr G1
  have c2 := o_le.mpr G2
  rw [o_mul] at c1
  rw [o_mul, o_add, o_add, o_1] at c2
  have X0 := mul_nn' rn (show 0 ≤ o S by grind)
  have R0 : 0 ≤ o ((R : Nat) : Int) := o_nn (by omega)
  have l1 : o ((R : Nat) : Int) ≤ rtq x.q * o S := ge_of_sq X0 R0 (by grind)
  have l2 : rtq x.q * o S < o ((R : Nat) : Int) + 1 := lt_of_sq (by grind) X0 (by grind)
  have vv : val x * o S = Real.of x.b * o S + Real.of (x.s : Rat) * (rtq x.q * o S) := by
    unfold val; grind
  rw [vv, ofI_add, of_int_mul]
  clear vv a1 a2 a2' b1 b2 c1 c2 eN
  generalize rtq x.q * o S = X at *
  generalize Real.of x.b * o S = Y at *
  rcases hx.s with e | e | e
  · rw [e, of_intm1]; exact ⟨by grind, by grind⟩
  · rw [e, of_int0]; exact ⟨by grind, by grind⟩
  · rw [e, of_int1]; exact ⟨by grind, by grind⟩
end Rs

namespace Ld
open PySem PySem.Spec PyProof.Rows L2 Bl Lb
def t_field_sign : TSd := sSeq (sIf (tOrD (tbl (dTwo (dTwo (dCall m_sign_of 1 0 (fun ds _ => ds) (aCons (vr 0) (aNil)) aNil) (dCall m_sign_of 1 0 (fun ds _ => ds) (aCons (vr 1) (aNil)) aNil) fMul) (cn (.int 0)) fGe)) (tbl (dTwo (vr 2) (cn (.int 0)) fEq))) (sRet (eIf (tbl (dTwo (vr 2) (cn (.int 0)) fEq)) (dCall m_sign_of 1 0 (fun ds _ => ds) (aCons (vr 0) (aNil)) aNil) (dCall m_sign_of 1 0 (fun ds _ => ds) (aCons (dTwo (dCall m_sign_of 1 0 (fun ds _ => ds) (aCons (vr 0) (aNil)) aNil) (dCall m_sign_of 1 0 (fun ds _ => ds) (aCons (vr 1) (aNil)) aNil) fAdd) (aNil)) aNil))) (sNx)) (sRet (dTwo (dCall m_sign_of 1 0 (fun ds _ => ds) (aCons (vr 0) (aNil)) aNil) (dCall m_sign_of 1 0 (fun ds _ => ds) (aCons (dTwo (dTwo (vr 0) (vr 0) fMul) (dTwo (dTwo (vr 1) (vr 1) fMul) (vr 2) fMul) fSub) (aNil)) aNil) fMul))
def m_field_sign : TFd := fnD 3 3 t_field_sign
def t_root_sign : TSd := sSeq (sAsg (vr 0) (.tp (.nm 1 :: .nm 2 :: .nm 3 :: []))) (sSeq (sAsg (dTwo (dTwo (vr 1) (cn (.int 1)) fIx) (dTwo (vr 3) (cn (.int 1)) fIx) fMul) (.nm 4)) (sRet (dCall m_field_sign 3 0 (fun ds _ => ds) (aCons (dTwo (dTwo (dTwo (vr 1) (cn (.int 0)) fIx) (dTwo (vr 3) (cn (.int 1)) fIx) fMul) (dTwo (vr 3) (cn (.int 1)) fIx) fMul) (aCons (dTwo (vr 2) (vr 4) fMul) (aCons (dTwo (dTwo (vr 3) (cn (.int 0)) fIx) (dTwo (vr 3) (cn (.int 1)) fIx) fMul) (aNil)))) aNil)))
def m_root_sign : TFd := fnD 1 5 t_root_sign
def t_against : TSd := sRet (dTup (aCons (dTwo (cn (.int 0)) (dTwo (vr 0) (cn (.int 0)) fIx) fSub) (aCons (dTwo (cn (.int 0)) (dTwo (vr 0) (cn (.int 1)) fIx) fSub) (aNil))))
def m_against : TFd := fnD 1 1 t_against
theorem e_against {a0 : D} {S : Sto} {Q : DK} {E : EK} (k : t_against [some a0] S ⟨fun _ S1 => Q .non S1, Q, fun _ _ => False, fun _ _ => False, fun x _ S1 => E x S1⟩) : m_against [a0] S Q E := ⟨rfl, k⟩
def t_rounds_apart : TSd := sSeq (sAsg (dCall m_step_from 2 0 (fun ds _ => ds) (aCons (dTwo (vr 1) (cn (.int 1)) fIx) (aCons (dTwo (vr 0) (cn (.int 1)) fIx) (aNil))) aNil) (.nm 2)) (sSeq (sIf (tOrD (tbl (dTwo (vr 2) (dTup (aCons (cn (.int 0)) (aCons (cn (.int 0)) (aNil)))) fEq)) (tOrD (tNotD (ttr (dCall m_is_out 2 0 (fun ds _ => ds) (aCons (vr 0) (aCons (vr 2) (aNil))) aNil))) (tNotD (ttr (dCall m_is_out 2 0 (fun ds _ => ds) (aCons (vr 1) (aCons (dCall m_against 1 0 (fun ds _ => ds) (aCons (vr 2) (aNil)) aNil) (aNil))) aNil))))) (sRet (cn .non)) (sNx)) (sRet (dCall m_root 1 2 (fun a b => g_root_sign_square a b) (aCons (dTup (aCons (dTwo (dTwo (cn (.int 0)) (dTwo (vr 0) (cn (.int 2)) fIx) fSub) (dTwo (vr 1) (cn (.int 2)) fIx) fSub) (aCons (cn (.int 1)) (aNil)))) (aNil)) (aCons (cn (.int 1)) (aCons (dTup (aCons (dCall m_dot_of 2 0 (fun ds _ => ds) (aCons (vr 2) (aCons (vr 2) (aNil))) aNil) (aCons (cn (.int 1)) (aNil)))) (aNil))))))
def m_rounds_apart : TFd := fnD 2 3 t_rounds_apart
theorem e_rounds_apart {a0 a1 : D} {S : Sto} {Q : DK} {E : EK} (k : t_rounds_apart [some a0, some a1, none] S ⟨fun _ S1 => Q .non S1, Q, fun _ _ => False, fun _ _ => False, fun x _ S1 => E x S1⟩) : m_rounds_apart [a0, a1] S Q E := ⟨rfl, k⟩
def t_side_apart : TSd := sSeq (sAsg (dCall m_outward 2 0 (fun ds _ => ds) (aCons (dTwo (vr 0) (cn (.int 1)) fIx) (aCons (dTwo (vr 0) (cn (.int 2)) fIx) (aNil))) aNil) (.nm 2)) (sSeq (sAsg (dTup (aCons (dTwo (dTwo (vr 1) (cn (.int 1)) fIx) (cn (.int 0)) fIx) (aCons (dTwo (dTwo (vr 1) (cn (.int 1)) fIx) (cn (.int 1)) fIx) (aCons (cn (.int 1)) (aNil))))) (.nm 3)) (sSeq (sIf (tOrD (tNotD (ttr (dCall m_is_beside 2 0 (fun ds _ => ds) (aCons (vr 0) (aCons (vr 3) (aNil))) aNil))) (tNotD (ttr (dCall m_is_out 2 0 (fun ds _ => ds) (aCons (vr 1) (aCons (dCall m_against 1 0 (fun ds _ => ds) (aCons (vr 2) (aNil)) aNil) (aNil))) aNil)))) (sRet (cn .non)) (sNx)) (sRet (dCall m_from_frac 1 0 (fun ds _ => ds) (aCons (dCall m_frac 2 0 (fun ds _ => ds ++ []) (aCons (dTwo (dCall m_side_height 2 0 (fun ds _ => ds) (aCons (vr 0) (aCons (vr 3) (aNil))) aNil) (dTwo (dTwo (vr 1) (cn (.int 2)) fIx) (dCall m_length_of 1 0 (fun ds _ => ds) (aCons (vr 2) (aNil)) aNil) fMul) fSub) (aCons (dCall m_length_of 1 0 (fun ds _ => ds) (aCons (vr 2) (aNil)) aNil) (aNil))) aNil) (aNil)) aNil))))
def m_side_apart : TFd := fnD 2 4 t_side_apart
theorem e_side_apart {a0 a1 : D} {S : Sto} {Q : DK} {E : EK} (k : t_side_apart [some a0, some a1, none, none] S ⟨fun _ S1 => Q .non S1, Q, fun _ _ => False, fun _ _ => False, fun x _ S1 => E x S1⟩) : m_side_apart [a0, a1] S Q E := ⟨rfl, k⟩
def t_faces_apart : TSd := sSeq (sIf (tAndD (tbl (dTwo (dTwo (vr 0) (cn (.int 0)) fIx) (cn (.str "side")) fEq)) (tbl (dTwo (dTwo (vr 1) (cn (.int 0)) fIx) (cn (.str "side")) fEq))) (sRet (cn .non)) (sNx)) (sSeq (sIf (tbl (dTwo (dTwo (vr 0) (cn (.int 0)) fIx) (cn (.str "side")) fEq)) (sRet (dCall m_side_apart 2 0 (fun ds _ => ds) (aCons (vr 0) (aCons (vr 1) (aNil))) aNil)) (sNx)) (sRet (eIf (tbl (dTwo (dTwo (vr 1) (cn (.int 0)) fIx) (cn (.str "side")) fEq)) (dCall m_side_apart 2 0 (fun ds _ => ds) (aCons (vr 1) (aCons (vr 0) (aNil))) aNil) (dCall m_rounds_apart 2 0 (fun ds _ => ds) (aCons (vr 0) (aCons (vr 1) (aNil))) aNil))))
def m_faces_apart : TFd := fnD 2 2 t_faces_apart
theorem e_faces_apart {a0 a1 : D} {S : Sto} {Q : DK} {E : EK} (k : t_faces_apart [some a0, some a1] S ⟨fun _ S1 => Q .non S1, Q, fun _ _ => False, fun _ _ => False, fun x _ S1 => E x S1⟩) : m_faces_apart [a0, a1] S Q E := ⟨rfl, k⟩
def t_apart : TSd := sSeq (sFor (iVal (dCall m_faces 1 0 (fun ds _ => ds) (aCons (vr 0) (aNil)) aNil)) (.nm 2) (sFor (iVal (dCall m_faces 1 0 (fun ds _ => ds) (aCons (vr 1) (aNil)) aNil)) (.nm 3) (sSeq (sAsg (dCall m_faces_apart 2 0 (fun ds _ => ds) (aCons (vr 2) (aCons (vr 3) (aNil))) aNil) (.nm 4)) (sIf (tAndD (tbl (dTwo (vr 4) (cn .non) fIsNot)) (tbl (dTwo (dCall m_root_sign 1 0 (fun ds _ => ds) (aCons (vr 4) (aNil)) aNil) (cn (.int 0)) fGt))) (sRet (vr 4)) (sNx))))) (sRet (dCall m_from_frac 1 0 (fun ds _ => ds) (aCons (cn k_ZERO) (aNil)) aNil))
def m_apart : TFd := fnD 2 5 t_apart
theorem e_apart {a0 a1 : D} {S : Sto} {Q : DK} {E : EK} (k : t_apart [some a0, some a1, none, none, none] S ⟨fun _ S1 => Q .non S1, Q, fun _ _ => False, fun _ _ => False, fun x _ S1 => E x S1⟩) : m_apart [a0, a1] S Q E := ⟨rfl, k⟩
def t_l_more : TSd := sRet (eIf (ttr (dIsi "int" (vr 0))) (dTwo (vr 0) (vr 1) fAdd) (dTup (aCons (dTwo (dTwo (vr 0) (cn (.int 0)) fIx) (dTwo (vr 1) (dTwo (vr 0) (cn (.int 1)) fIx) fMul) fAdd) (aCons (dTwo (vr 0) (cn (.int 1)) fIx) (aNil)))))
def m_l_more : TFd := fnD 2 2 t_l_more
theorem e_l_more {a0 a1 : D} {S : Sto} {Q : DK} {E : EK} (k : t_l_more [some a0, some a1] S ⟨fun _ S1 => Q .non S1, Q, fun _ _ => False, fun _ _ => False, fun x _ S1 => E x S1⟩) : m_l_more [a0, a1] S Q E := ⟨rfl, k⟩
def t_l_less : TSd := sRet (eIf (ttr (dIsi "int" (vr 0))) (dTwo (cn (.int 0)) (vr 0) fSub) (dTup (aCons (dTwo (cn (.int 0)) (dTwo (vr 0) (cn (.int 0)) fIx) fSub) (aCons (dTwo (vr 0) (cn (.int 1)) fIx) (aNil)))))
def m_l_less : TFd := fnD 1 1 t_l_less
theorem e_l_less {a0 : D} {S : Sto} {Q : DK} {E : EK} (k : t_l_less [some a0] S ⟨fun _ S1 => Q .non S1, Q, fun _ _ => False, fun _ _ => False, fun x _ S1 => E x S1⟩) : m_l_less [a0] S Q E := ⟨rfl, k⟩
def t_l_changed : TSd := sSeq (sAsg (vr 1) (.tp (.nm 3 :: .nm 4 :: []))) (sSeq (sIf (tbl (dTwo (vr 0) (cn (.int 0)) fEq)) (sRet (dTup (aCons (dCall m_l_more 2 0 (fun ds _ => ds) (aCons (vr 3) (aCons (dTwo (vr 2) (cn (.int 0)) fIx) (aNil))) aNil) (aCons (dCall m_l_more 2 0 (fun ds _ => ds) (aCons (vr 4) (aCons (dTwo (vr 2) (cn (.int 1)) fIx) (aNil))) aNil) (aNil))))) (sNx)) (sSeq (sIf (tbl (dTwo (vr 0) (cn (.int 4)) fLt)) (sSeq (sFor (iR1 (aCons (vr 0) (aNil))) (.nm 5) (sPar [3, 4] (aCons (dCall m_l_less 1 0 (fun ds _ => ds) (aCons (vr 4) (aNil)) aNil) (aCons (vr 3) (aNil))))) (sRet (dTup (aCons (vr 3) (aCons (vr 4) (aNil)))))) (sNx)) (sRet (dTup (aCons (dCall m_l_less 1 0 (fun ds _ => ds) (aCons (vr 3) (aNil)) aNil) (aCons (vr 4) (aNil)))))))
def m_l_changed : TFd := fnD 3 6 t_l_changed
theorem e_l_changed {a0 a1 a2 : D} {S : Sto} {Q : DK} {E : EK} (k : t_l_changed [some a0, some a1, some a2, none, none, none] S ⟨fun _ S1 => Q .non S1, Q, fun _ _ => False, fun _ _ => False, fun x _ S1 => E x S1⟩) : m_l_changed [a0, a1, a2] S Q E := ⟨rfl, k⟩
def t_l_thing_changed : TSd := sSeq (sAsg (dLc (iVal (dSl (vr 1) (oSome (cn (.int 1))) (oNone))) (.nm 5) (tYesD) (dCall m_l_changed 3 0 (fun ds _ => ds) (aCons (vr 0) (aCons (vr 5) (aCons (vr 2) (aNil)))) aNil) [4, 5]) (.nm 3)) (sSeq (sIf (tAndD (tbl (dTwo (vr 0) (cn (.int 4)) fEq)) (tbl (dTwo (dTwo (vr 1) (cn (.int 0)) fIx) (cn (.str "bow")) fEq))) (sAsg (dLst (aCons (dTwo (vr 3) (cn (.int 0)) fIx) (aCons (dTwo (vr 3) (cn (.int 2)) fIx) (aCons (dTwo (vr 3) (cn (.int 1)) fIx) (aNil))))) (.nm 3)) (sNx)) (sRet (dTwo (dSl (vr 1) (oNone) (oSome (cn (.int 1)))) (dB bTup (aCons (vr 3) (aNil))) fAdd)))
def m_l_thing_changed : TFd := fnD 3 6 t_l_thing_changed
theorem e_l_thing_changed {a0 a1 a2 : D} {S : Sto} {Q : DK} {E : EK} (k : t_l_thing_changed [some a0, some a1, some a2, none, none, none] S ⟨fun _ S1 => Q .non S1, Q, fun _ _ => False, fun _ _ => False, fun x _ S1 => E x S1⟩) : m_l_thing_changed [a0, a1, a2] S Q E := ⟨rfl, k⟩
def t_l_product : TSd := sRet (dCall m_l_low 2 0 (fun ds _ => ds) (aCons (dTwo (dTwo (vr 0) (cn (.int 0)) fIx) (dTwo (vr 1) (cn (.int 0)) fIx) fMul) (aCons (dTwo (dTwo (vr 0) (cn (.int 1)) fIx) (dTwo (vr 1) (cn (.int 1)) fIx) fMul) (aNil))) aNil)
def m_l_product : TFd := fnD 2 2 t_l_product
theorem e_l_product {a0 a1 : D} {S : Sto} {Q : DK} {E : EK} (k : t_l_product [some a0, some a1] S ⟨fun _ S1 => Q .non S1, Q, fun _ _ => False, fun _ _ => False, fun x _ S1 => E x S1⟩) : m_l_product [a0, a1] S Q E := ⟨rfl, k⟩
def t_l_contrary : TSd := sRet (dTup (aCons (dTwo (cn (.int 0)) (dTwo (vr 0) (cn (.int 0)) fIx) fSub) (aCons (dTwo (vr 0) (cn (.int 1)) fIx) (aNil))))
def m_l_contrary : TFd := fnD 1 1 t_l_contrary
theorem e_l_contrary {a0 : D} {S : Sto} {Q : DK} {E : EK} (k : t_l_contrary [some a0] S ⟨fun _ S1 => Q .non S1, Q, fun _ _ => False, fun _ _ => False, fun x _ S1 => E x S1⟩) : m_l_contrary [a0] S Q E := ⟨rfl, k⟩
def t_l_are_fitting : TSd := sSeq (sAsg (dLstR (aNil)) (.nm 3)) (sSeq (sFor (iVal (dTup (aCons (vr 0) (aCons (vr 1) (aCons (vr 2) (aNil)))))) (.nm 4) (sSeq (sAsg (dTwo (cn (.int 10)) (cn (.int 24)) fPow) (.nm 5)) (sSeq (sAsg (dTwo (dTwo (dTwo (dTwo (vr 4) (cn (.int 0)) fIx) (cn (.int 0)) fIx) (vr 5) fMul) (dTwo (dTwo (vr 4) (cn (.int 0)) fIx) (cn (.int 1)) fIx) fDiv) (.nm 6)) (sSeq (sAsg (dTwo (dTwo (dTwo (dTwo (dTwo (vr 4) (cn (.int 2)) fIx) (cn (.int 0)) fIx) (vr 5) fMul) (vr 5) fMul) (dTwo (dTwo (vr 4) (cn (.int 2)) fIx) (cn (.int 1)) fIx) fDiv) (.nm 7)) (sDrop (dLm gApp (vr 3) (aCons (dTwo (vr 6) (dTwo (dTwo (vr 4) (cn (.int 1)) fIx) (dCall m_l_rooted 1 0 (fun ds _ => ds) (aCons (vr 7) (aNil)) aNil) fMul) fAdd) (aNil)))))))) (sRet (dTwo (dTwo (vr 3) (cn (.int 0)) fIx) (dTwo (dTwo (dTwo (vr 3) (cn (.int 1)) fIx) (dTwo (vr 3) (cn (.int 2)) fIx) fAdd) (cn (.int 9)) fAdd) fLe)))
def m_l_are_fitting : TFd := fnD 3 8 t_l_are_fitting
theorem e_l_are_fitting {a0 a1 a2 : D} {S : Sto} {Q : DK} {E : EK} (k : t_l_are_fitting [some a0, some a1, some a2, none, none, none, none, none] S ⟨fun _ S1 => Q .non S1, Q, fun _ _ => False, fun _ _ => False, fun x _ S1 => E x S1⟩) : m_l_are_fitting [a0, a1, a2] S Q E := ⟨rfl, k⟩
def t_l_places_right : TSd := sSeq (sAsg (dCall m_apart 2 0 (fun ds _ => ds) (aCons (vr 0) (aCons (vr 1) (aNil))) aNil) (.nm 3)) (sSeq (sFor (iVal (vr 2)) (.nm 4) (sSeq (sIf (tbl (dTwo (dTwo (dCall m_distance 2 0 (fun ds _ => ds) (aCons (vr 0) (aCons (vr 4) (aNil))) aNil) (dTup (aCons (dTup (aCons (cn (.int 0)) (aCons (cn (.int 1)) (aNil)))) (aCons (cn (.int 0)) (aCons (dTup (aCons (cn (.int 0)) (aCons (cn (.int 1)) (aNil)))) (aNil))))) fEq) (dTwo (dCall m_faces_at 2 0 (fun ds _ => ds) (aCons (vr 0) (aCons (vr 4) (aNil))) aNil) (dTup (aNil)) fEq) fNe)) (sRet (cn (.bl false))) (sNx)) (sSeq (sIf (tNotD (ttr (dCall m_l_are_fitting 3 0 (fun ds _ => ds) (aCons (vr 3) (aCons (dCall m_distance 2 0 (fun ds _ => ds) (aCons (vr 0) (aCons (vr 4) (aNil))) aNil) (aCons (dCall m_distance 2 0 (fun ds _ => ds) (aCons (vr 1) (aCons (vr 4) (aNil))) aNil) (aNil)))) aNil))) (sRet (cn (.bl false))) (sNx)) (sFor (iVal (vr 2)) (.nm 5) (sSeq (sAsg (dCall m_l_sum 2 0 (fun ds _ => ds) (aCons (dTwo (vr 4) (cn (.int 0)) fIx) (aCons (dCall m_l_contrary 1 0 (fun ds _ => ds) (aCons (dTwo (vr 5) (cn (.int 0)) fIx) (aNil)) aNil) (aNil))) aNil) (.nm 6)) (sSeq (sAsg (dCall m_l_sum 2 0 (fun ds _ => ds) (aCons (dTwo (vr 4) (cn (.int 1)) fIx) (aCons (dCall m_l_contrary 1 0 (fun ds _ => ds) (aCons (dTwo (vr 5) (cn (.int 1)) fIx) (aNil)) aNil) (aNil))) aNil) (.nm 7)) (sSeq (sAsg (dCall m_l_root 2 0 (fun ds _ => ds) (aCons (cn (.int 0)) (aCons (dCall m_l_sum 2 0 (fun ds _ => ds) (aCons (dCall m_l_product 2 0 (fun ds _ => ds) (aCons (vr 6) (aCons (vr 6) (aNil))) aNil) (aCons (dCall m_l_product 2 0 (fun ds _ => ds) (aCons (vr 7) (aCons (vr 7) (aNil))) aNil) (aNil))) aNil) (aNil))) aNil) (.nm 8)) (sIf (tNotD (ttr (dCall m_l_are_fitting 3 0 (fun ds _ => ds) (aCons (dCall m_distance 2 0 (fun ds _ => ds) (aCons (vr 0) (aCons (vr 4) (aNil))) aNil) (aCons (dCall m_distance 2 0 (fun ds _ => ds) (aCons (vr 0) (aCons (vr 5) (aNil))) aNil) (aCons (vr 8) (aNil)))) aNil))) (sRet (cn (.bl false))) (sNx))))))))) (sRet (cn (.bl true))))
def m_l_places_right : TFd := fnD 3 9 t_l_places_right
theorem e_l_places_right {a0 a1 a2 : D} {S : Sto} {Q : DK} {E : EK} (k : t_l_places_right [some a0, some a1, some a2, none, none, none, none, none, none] S ⟨fun _ S1 => Q .non S1, Q, fun _ _ => False, fun _ _ => False, fun x _ S1 => E x S1⟩) : m_l_places_right [a0, a1, a2] S Q E := ⟨rfl, k⟩
end Ld

namespace Ld
open PySem PySem.Spec PyProof.Rows L2 Bl Lb Rl Rs
local macro_rules | `(tactic| walk_at "bl0") => `(tactic| (with_reducible (first
  | (refine Go.gVr ?_; first | refine Go.vr0 ?_ | refine Go.vr1 ?_ | refine Go.vr2 ?_ | refine Go.vr3 ?_ | refine Go.vr4 ?_ | refine Go.vr5 ?_ | refine Go.vr6 ?_ | refine Go.vr7 ?_ | refine Go.vr8 ?_ | refine Go.vr9 ?_ | refine Go.vr10 ?_ | refine Go.vr11 ?_ | refine Go.vr12 ?_ | refine Go.vr13 ?_ | refine Go.vr14 ?_ | refine Go.vr15 ?_ | refine Go.vr16 ?_ | refine Go.vr17 ?_ | refine Go.vr18 ?_ | refine Go.vr19 ?_ | refine Go.vr20 ?_ | refine Go.vr21 ?_ | refine Go.vr22 ?_ | refine Go.vr23 ?_)
  | refine Go.seq ?_
  | refine Go.nx' ?_
  | refine Go.ret ?_
  | refine Go.if' ?_
  | refine Go.asg ?_
  | refine Go.par ?_
  | refine Go.drop ?_
  | refine Go.brk ?_
  | refine Go.cnt ?_
  | refine Go.raise ?_
  | refine Go.thru ?_
  | refine Go.tryAs ?_
  | refine Go.for' ?_
  | refine Go.sub ?_
  | refine Go.retN ?_
  | refine Go.par_cons ?_
  | refine Go.par_nil ?_
  | refine Go.cn' ?_
  | refine Go.two ?_
  | refine Go.nil ?_
  | refine Go.cons ?_
  | refine Go.tup ?_
  | refine Go.lst ?_
  | refine Go.lstR ?_
  | refine Go.tbl' ?_
  | refine Go.tblK' ?_
  | refine Go.ttr' ?_
  | refine Go.truB ?_
  | refine Go.truI ?_
  | refine Go.truN ?_
  | refine Go.and' ?_
  | refine Go.or' ?_
  | refine Go.not' ?_
  | refine Go.vOf' ?_
  | refine Go.vNot' ?_
  | refine Go.eIf' ?_
  | refine Go.ifT ?_
  | refine Go.ifF ?_
  | refine Go.ifN ?_
  | refine Go.add ?_
  | refine Go.sub' ?_
  | refine Go.lt ?_
  | refine Go.le ?_
  | refine Go.gt ?_
  | refine Go.ge ?_
  | refine Go.eqI ?_
  | refine Go.neI ?_
  | refine Go.is' ?_
  | refine Go.isNot' ?_
  | refine Go.chain ?_
  | refine Go.dB' ?_
  | refine Go.neg ?_
  | refine Go.neg' ?_
  | refine Go.abs' ?_
  | refine Go.lenT ?_
  | refine Go.lenL ?_
  | refine Go.max' ?_
  | refine Go.min' ?_
  | refine Go.intI ?_
  | refine Go.intB ?_
  | refine Go.tupL ?_
  | refine Go.tupT ?_
  | refine Go.isi ?_
  | refine Go.call ?_
  | refine Go.iVal' ?_
  | refine Go.iValT ?_
  | refine Go.iValL ?_
  | refine Go.r1 ?_
  | refine Go.r2 ?_
  | refine Go.star ?_
  | refine Go.l_cons ?_
  | refine Go.l_nil ?_
  | refine Go.enum' ?_
  | refine Go.rev' ?_
  | refine Go.zip' ?_
  | refine Go.wipe_nil ?_
  | refine Go.wipe_cons ?_
  | refine Go.iadd ?_
  | refine Go.sl ?_
  | refine Go.oN ?_
  | refine Go.oS ?_
  | refine Go.osK' ?_
  | refine Go.getL ?_
  | refine Go.lc ?_
  | refine Go.lcR ?_
  | refine Go.lg_nil ?_
  | refine Go.lg_cons ?_
  | refine Go.yes ?_
  | refine Go.for_nil ?_
  | refine Go.for_cons ?_
  | refine Go.revT ?_
  | refine Go.revL ?_
  | refine Go.zipT ?_
  | refine Go.zipL ?_
  | refine Go.tupK' rfl ?_
  | refine Go.lstK' rfl ?_
  | refine Go.callK' rfl rfl ?_
  | refine Go.lcL rfl ?_
  | refine Go.getLL' rfl ?_
  | refine Go.addT rfl ?_
  | (refine Go.gAsg ?_; first | refine Go.set0 ?_ | refine Go.set1 ?_ | refine Go.set2 ?_ | refine Go.set3 ?_ | refine Go.set4 ?_ | refine Go.set5 ?_ | refine Go.set6 ?_ | refine Go.set7 ?_ | refine Go.set8 ?_ | refine Go.set9 ?_ | refine Go.set10 ?_ | refine Go.set11 ?_ | refine Go.set12 ?_ | refine Go.set13 ?_ | refine Go.set14 ?_ | refine Go.set15 ?_ | refine Go.set16 ?_ | refine Go.set17 ?_ | refine Go.set18 ?_ | refine Go.set19 ?_ | refine Go.set20 ?_ | refine Go.set21 ?_ | refine Go.set22 ?_ | refine Go.set23 ?_ | refine Go.tp_cons ?_ | refine Go.tp_nil ?_)
  | (refine Go.gIxT ?_; first | refine Go.ixT0 ?_ | refine Go.ixT1 ?_ | refine Go.ixT2 ?_ | refine Go.ixT3 ?_ | refine Go.ixT4 ?_ | refine Go.ixT5 ?_ | refine Go.ixT6 ?_ | refine Go.ixT7 ?_)
  | (refine Go.gIxL ?_; first | refine Go.ixL0 ?_ | refine Go.ixL1 ?_ | refine Go.ixL2 ?_ | refine Go.ixL3 ?_ | refine Go.ixL4 ?_ | refine Go.ixL5 ?_ | refine Go.ixL6 ?_ | refine Go.ixL7 ?_)
  | (refine Go.gAug ?_; first | refine Go.aug0 ?_ | refine Go.aug1 ?_ | refine Go.aug2 ?_ | refine Go.aug3 ?_ | refine Go.aug4 ?_ | refine Go.aug5 ?_ | refine Go.aug6 ?_ | refine Go.aug7 ?_ | refine Go.aug8 ?_ | refine Go.aug9 ?_ | refine Go.aug10 ?_ | refine Go.aug11 ?_ | refine Go.aug12 ?_ | refine Go.aug13 ?_ | refine Go.aug14 ?_ | refine Go.aug15 ?_ | refine Go.aug16 ?_ | refine Go.aug17 ?_ | refine Go.aug18 ?_ | refine Go.aug19 ?_ | refine Go.aug20 ?_ | refine Go.aug21 ?_ | refine Go.aug22 ?_ | refine Go.aug23 ?_)
  | (refine Go.gStar ?_; first | refine Go.startup0 ?_ | refine Go.starlst0 ?_ | refine Go.startup1 ?_ | refine Go.starlst1 ?_ | refine Go.startup2 ?_ | refine Go.starlst2 ?_ | refine Go.startup3 ?_ | refine Go.starlst3 ?_ | refine Go.startup4 ?_ | refine Go.starlst4 ?_ | refine Go.startup_2 ?_ | refine Go.starlst_2 ?_ | refine Go.startup_3 ?_ | refine Go.starlst_3 ?_ | refine Go.startup_4 ?_ | refine Go.starlst_4 ?_)
  | refine Go.slfT1 ?_ | refine Go.sltT1 ?_ | refine Go.slfL1 ?_ | refine Go.sltL1 ?_ | refine Go.slfT2 ?_ | refine Go.sltT2 ?_ | refine Go.slfL2 ?_ | refine Go.sltL2 ?_ | refine Go.slfT3 ?_ | refine Go.sltT3 ?_ | refine Go.slfL3 ?_ | refine Go.sltL3 ?_ | refine Go.slfT4 ?_ | refine Go.sltT4 ?_ | refine Go.slfL4 ?_ | refine Go.sltL4 ?_
  | (refine Go.gUns ?_; first | refine Go.uns0 ?_ | refine Go.uns1 ?_ | refine Go.uns2 ?_ | refine Go.uns3 ?_ | refine Go.uns4 ?_ | refine Go.uns5 ?_ | refine Go.uns6 ?_ | refine Go.uns7 ?_ | refine Go.uns8 ?_ | refine Go.uns9 ?_ | refine Go.uns10 ?_ | refine Go.uns11 ?_ | refine Go.uns12 ?_ | refine Go.uns13 ?_ | refine Go.uns14 ?_ | refine Go.uns15 ?_ | refine Go.uns16 ?_ | refine Go.uns17 ?_ | refine Go.uns18 ?_ | refine Go.uns19 ?_ | refine Go.uns20 ?_ | refine Go.uns21 ?_ | refine Go.uns22 ?_ | refine Go.uns23 ?_)
  | refine Go.entup0 ?_ | refine Go.enlst0 ?_ | refine Go.entup1 ?_ | refine Go.enlst1 ?_ | refine Go.entup2 ?_ | refine Go.enlst2 ?_ | refine Go.entup3 ?_ | refine Go.enlst3 ?_ | refine Go.entup4 ?_ | refine Go.enlst4 ?_ | refine Go.entup5 ?_ | refine Go.enlst5 ?_ | refine Go.entup6 ?_ | refine Go.enlst6 ?_)))
local macro_rules | `(tactic| walk_at "bl1") => `(tactic| first | ((with_reducible refine Go.gEqS ?_); (first | refine Go.eqS (b := true) ⟨rfl, by decide +kernel⟩ ⟨rfl, by decide +kernel⟩ rfl ?_ | refine Go.eqS (b := false) ⟨rfl, by decide +kernel⟩ ⟨rfl, by decide +kernel⟩ rfl ?_)) | ((with_reducible refine Go.gNeS ?_); (first | refine Go.neS (b := true) ⟨rfl, by decide +kernel⟩ ⟨rfl, by decide +kernel⟩ rfl ?_ | refine Go.neS (b := false) ⟨rfl, by decide +kernel⟩ ⟨rfl, by decide +kernel⟩ rfl ?_)) | walk_at "bl0" | ((with_reducible refine Go.gAll ?_); (refine Go.allB (by rfl) ?_)) | ((with_reducible refine Go.gIxT ?_); (refine Go.ixT (by rfl) ?_)) | ((with_reducible refine Go.gIxL ?_); (refine Go.ixL (by rfl) ?_)))
local macro_rules | `(tactic| walk_at "bl") => `(tactic| (repeat walk_at "bl1"))
local macro_rules | `(tactic| walk_at "bl0") => `(tactic| (with_reducible (first | refine Go.zipS' ?_ | refine Go.zipR' ?_ | refine Go.seqT ?_ | refine Go.seqL ?_ | refine Go.zipST rfl ?_ | refine Go.zipSL rfl ?_ | refine Go.for_zc ?_ | refine Go.for_zn ?_ | refine Go.lg_zc ?_ | refine Go.lg_zn ?_)))
theorem root_sign_spec {x : Rt} {n m : Nat} {S : Sto} {Q : DK} {E : EK} (hb : sr n x.b) (hq : sr m x.q) (hs : x.s = -1 ∨ x.s = 0 ∨ x.s = 1) (h0 : 0 ≤ x.q) (hn : n + 2 * m ≤ 20000) (k : Q (.int (sg (val x))) S) : m_root_sign [rt x] S Q E :=
  Lr.root_sign_spec hb hq hs h0 hn k
theorem against_spec {u : P2} {S : Sto} {Q : DK} {E : EK} (k : Q (pt (neg2 u)) S) : m_against [pt u] S Q E := by
  refine e_against ?_
  unfold t_against
  walk_at "bl"
  exact k
theorem neg2_sm {u : P2} {n : Nat} (h1 : sm n u.1) (h2 : sm n u.2) : sm n (neg2 u).1 ∧ sm n (neg2 u).2 := by
  unfold neg2 sm at *
  dsimp only
  exact ⟨by omega, by omega⟩
def optD : Option Rt → D
  | none => .non
  | some ρ => rt ρ
theorem out_spec {u : P2} {c f l : P2} {r : Int} {n : Nat} {S : Sto} {Q : DK} {E : EK} (hf : DirOk n f) (hl : DirOk n l) (u1 : sm n u.1) (u2 : sm n u.2) (hn : n ≤ 4000) (k : Q (.bl (decide (outI f l u))) S) : m_is_out [fcD (.round c r f l), pt u] S Q E :=
  is_out_spec hf.s1 hf.s2 hl.s1 hl.s2 u1 u2 hn k
theorem rounds_apart_spec {c1 f1 l1 c2 f2 l2 : P2} {r1 r2 : Int} {S : Sto} {Q : DK} {E : EK} (h1 : FcGood 12 (.round c1 r1 f1 l1)) (h2 : FcGood 12 (.round c2 r2 f2 l2)) (k : Q (optD (roundP c1 r1 f1 l1 c2 r2 f2 l2)) S) : m_rounds_apart [fcD (.round c1 r1 f1 l1), fcD (.round c2 r2 f2 l2)] S Q E := by
  refine e_rounds_apart ?_
  unfold t_rounds_apart
  obtain ⟨a1, a2, a3, a4, a5⟩ := h1
  obtain ⟨b1, b2, b3, b4, b5⟩ := h2
  obtain ⟨s1, s2⟩ := sm_dif b3 a3
  obtain ⟨t1, t2⟩ := neg2_sm s1 s2
  unfold roundP at k
  have w1 : fcD (.round c1 r1 f1 l1) = .tup [.str "round", pt c1, .int r1, pt f1, pt l1] := rfl
  have w2 : fcD (.round c2 r2 f2 l2) = .tup [.str "round", pt c2, .int r2, pt f2, pt l2] := rfl
  rw [w1, w2]
  walk_at "bl"
  refine step_spec ?_
  walk_at "bl"
  refine eq_pt (b := (0, 0)) ?_
  walk_at "bl"
  refine Go.ifD (fun h => ?_) fun h => ?_
  · rw [if_pos (.inl h)] at k
    walk_at "bl"
    exact k
  walk_at "bl"
  rw [← w1]
  refine out_spec (n := 12) a1 a2 s1 s2 (by decide) ?_
  walk_at "bl"
  refine Go.ifD (fun h3 => ?_) fun h3 => ?_
  · rw [w1]
    walk_at "bl"
    refine against_spec ?_
    walk_at "bl"
    rw [← w2]
    refine out_spec (n := 12) b1 b2 t1 t2 (by decide) ?_
    walk_at "bl"
    refine Go.ifD (fun h4 => ?_) fun h4 => ?_
    · rw [if_neg (fun z => z.elim h fun z => z.elim (fun z => z h3) fun z => z h4)] at k
      rw [w2]
      walk_at "bl"
      refine dot_spec s1 s2 s1 s2 (by decide) ?_
      walk_at "bl"
      have N0 : (0 : Rat) ≤ ((dot (dif c2 c1) (dif c2 c1) : Int) : Rat) := by
        rw [Rat.intCast_nonneg]
        have := far_nonneg c2 c1
        exact this
      refine root_spec (b := ((0 - r1 - r2 : Int) : Rat)) (q := ((dot (dif c2 c1) (dif c2 c1) : Int) : Rat)) (n := 40) (sr.int (((((sm.of (n := 25) (by decide)).sub a5).mono (show 26 ≤ 27 by decide)).sub (b5.mono (by decide))).mono (by decide)) (by decide)) (sr.int ((sm_dot s1 s2 s1 s2).mono (by decide)) (by decide)) N0 (.inr (.inr rfl)) (by decide) ?_
      walk_at "bl"
      exact k
    · rw [if_pos (.inr (.inr h4))] at k
      walk_at "bl"
      exact k
  · rw [if_pos (.inr (.inl h3))] at k
    walk_at "bl"
    exact k
theorem wp_point {c : P2} (hc : Bd c) : Wp 12 (toR c) c.1 c.2 1 := by
  have h1 := hc.1
  have h2 := hc.2
  have one : ((1 : Int) : Rat) = 1 := rfl
  exact ⟨by decide, by unfold toR; rw [one]; grind, by unfold toR; rw [one]; grind, by unfold sm; omega, by unfold sm; omega, by unfold sm; decide⟩
theorem height_int (a b c : P2) : heightR (toR c) a b = ((dot (dif c a) (outw a b) : Int) : Rat) := by
  unfold heightR dotR difR toR dot
  dsimp only
  rw [Rat.intCast_add, Rat.intCast_mul, Rat.intCast_mul]
  unfold dif
  dsimp only
  rw [Rat.intCast_sub c.1, Rat.intCast_sub c.2]
theorem side_apart_spec {a b c f l : P2} {r : Int} {S : Sto} {Q : DK} {E : EK} (h1 : FcGood 12 (.side a b)) (h2 : FcGood 12 (.round c r f l)) (k : Q (optD (sideP a b c r f l)) S) : m_side_apart [fcD (.side a b), fcD (.round c r f l)] S Q E := by
  refine e_side_apart ?_
  unfold t_side_apart
  obtain ⟨hne, ha, hb, hw⟩ := id h1
  obtain ⟨b1, b2, b3, b4, b5⟩ := h2
  have o := outw_ok hne ha hb hw
  obtain ⟨t1, t2⟩ := neg2_sm o.s1 o.s2
  have w := wp_point b3
  unfold sideP at k
  have w1 : fcD (.side a b) = .tup [.str "side", pt a, pt b] := rfl
  have w2 : fcD (.round c r f l) = .tup [.str "round", pt c, .int r, pt f, pt l] := rfl
  rw [w1, w2]
  walk_at "bl"
  refine outward_spec hne ha hb ?_
  walk_at "bl"
  rw [← w1]
  refine is_beside_spec w ha hb (by decide) ?_
  walk_at "bl"
  refine Go.ifD (fun h3 => ?_) fun h3 => ?_
  · walk_at "bl"
    refine against_spec ?_
    walk_at "bl"
    rw [← w2]
    refine out_spec (n := 12) b1 b2 t1 t2 (by decide) ?_
    walk_at "bl"
    refine Go.ifD (fun h4 => ?_) fun h4 => ?_
    · rw [if_neg (fun z => z.elim (fun z => z h3) fun z => z h4)] at k
      walk_at "bl"
      refine side_height_spec (a := a) (b := b) w h1 (by decide) fun h eh sh => ?_
      have he : h = dot (dif c a) (outw a b) := by
        rw [height_int, show ((1 : Int) : Rat) = 1 from rfl] at eh
        exact Rat.intCast_inj.mp (by rw [eh]; grind)
      subst he
      have l0 := lenq_pos o.ne
      have ls := lenq_sm o.s1 o.s2
      rw [w2]
      walk_at "bl"
      refine length_spec o.s1 o.s2 (by decide) ?_
      walk_at "bl"
      refine Go.mul ((b5.mono (by decide : 25 ≤ 40)).cmul (ls.mono (by decide : _ ≤ 40)) (by decide)) ?_
      walk_at "bl"
      refine length_spec o.s1 o.s2 (by decide) ?_
      walk_at "bl"
      refine frac_spec (n := 82) (r := ((dot (dif c a) (outw a b) - r * lenq (outw a b) : Int) : Rat) / ((lenq (outw a b) : Int) : Rat)) (by omega) ((sh.mono (by decide : _ ≤ 80)).sub (((b5.mono (by decide : 25 ≤ 40)).mul (ls.mono (by decide : _ ≤ 40))).mono (by decide)) |>.mono (by decide)) (ls.mono (by decide)) (by decide) (Rat.div_mul_cancel (castne (by omega))) ?_
      walk_at "bl"
      refine from_frac_spec ?_
      exact k
    · rw [if_pos (.inr h4)] at k
      walk_at "bl"
      exact k
  · rw [if_pos (.inl h3)] at k
    walk_at "bl"
    exact k
theorem faces_apart_spec {f g : Fc} {S : Sto} {Q : DK} {E : EK} (h1 : FcGood 12 f) (h2 : FcGood 12 g) (k : Q (optD (farP f g)) S) : m_faces_apart [fcD f, fcD g] S Q E := by
  refine e_faces_apart ?_
  unfold t_faces_apart
  cases f with
  | side a b =>
    have w1 : fcD (.side a b) = .tup [.str "side", pt a, pt b] := rfl
    cases g with
    | side c d =>
      have w2 : fcD (.side c d) = .tup [.str "side", pt c, pt d] := rfl
      rw [w1, w2]
      walk_at "bl"
      exact k
    | round c r f l =>
      have w2 : fcD (.round c r f l) = .tup [.str "round", pt c, .int r, pt f, pt l] := rfl
      rw [w1, w2]
      walk_at "bl"
      rw [← w1, ← w2]
      exact side_apart_spec h1 h2 k
  | round c r f l =>
    have w2 : fcD (.round c r f l) = .tup [.str "round", pt c, .int r, pt f, pt l] := rfl
    cases g with
    | side a b =>
      have w1 : fcD (.side a b) = .tup [.str "side", pt a, pt b] := rfl
      rw [w1, w2]
      walk_at "bl"
      rw [← w1, ← w2]
      exact side_apart_spec h2 h1 k
    | round c2 r2 f2 l2 =>
      have w1 : fcD (.round c2 r2 f2 l2) = .tup [.str "round", pt c2, .int r2, pt f2, pt l2] := rfl
      rw [w1, w2]
      walk_at "bl"
      rw [← w1, ← w2]
      exact rounds_apart_spec h1 h2 k
theorem far_sr {f g : Fc} {ρ : Rt} (h1 : FcGood 12 f) (h2 : FcGood 12 g) (h : farP f g = some ρ) : sr 100 ρ.b ∧ sr 100 ρ.q := by
  have side : ∀ {a b c : P2} {r : Int} {f l : P2}, FcGood 12 (.side a b) → FcGood 12 (.round c r f l) → sideP a b c r f l = some ρ → sr 100 ρ.b ∧ sr 100 ρ.q := fun {a b c r f l} h1 h2 h => by
    obtain ⟨hne, ha, hb, hw⟩ := h1
    obtain ⟨b1, b2, b3, b4, b5⟩ := h2
    have o := outw_ok hne ha hb hw
    have l0 := lenq_pos o.ne
    have ls := lenq_sm o.s1 o.s2
    obtain ⟨s1, s2⟩ := sm_dif b3 ha
    unfold sideP at h
    split at h
    · cases h
    · rw [← Option.some.inj h]
      have z := low_sm (n := 82) (m := 82) (r := ((dot (dif c a) (outw a b) - r * lenq (outw a b) : Int) : Rat) / ((lenq (outw a b) : Int) : Rat)) (show (lenq (outw a b) : Int) ≠ 0 by omega) (Rat.div_mul_cancel (castne (by omega))) ((((sm_dot s1 s2 o.s1 o.s2).mono (by decide : _ ≤ 80)).sub (((b5.mono (by decide : 25 ≤ 40)).mul (ls.mono (by decide : _ ≤ 40))).mono (by decide))).mono (by decide)) (ls.mono (by decide))
      exact ⟨⟨z.1.mono (by decide), z.2.mono (by decide)⟩, sr.zero.mono (by decide : 1 ≤ 100)⟩
  cases f <;> cases g
  · cases h
  · exact side h1 h2 h
  · exact side h2 h1 h
  · rename_i c1 r1 f1 l1 c2 r2 f2 l2
    have h' : roundP c1 r1 f1 l1 c2 r2 f2 l2 = some ρ := h
    obtain ⟨_, _, a3, _, a5⟩ := h1
    obtain ⟨_, _, b3, _, b5⟩ := h2
    obtain ⟨s1, s2⟩ := sm_dif b3 a3
    unfold roundP at h'
    split at h'
    · cases h'
    · rw [← Option.some.inj h']
      have N0 : (0 : Rat) ≤ ((dot (dif c2 c1) (dif c2 c1) : Int) : Rat) := by
        rw [Rat.intCast_nonneg]
        exact far_nonneg c2 c1
      obtain ⟨x, y, _⟩ := canon_sr (b := ((0 - r1 - r2 : Int) : Rat)) (q := ((dot (dif c2 c1) (dif c2 c1) : Int) : Rat)) (s := 1) (n := 40) (m := 40) (sr.int (((((sm.of (n := 25) (by decide)).sub a5).mono (show 26 ≤ 27 by decide)).sub (b5.mono (by decide))).mono (by decide)) (by decide)) (sr.int ((sm_dot s1 s2 s1 s2).mono (by decide)) (by decide)) N0 (.inr (.inr rfl))
      exact ⟨x.mono (by decide), y.mono (by decide)⟩
noncomputable def hit (f g : Fc) : Option Rt := match farP f g with
  | some ρ => if 0 < sg (val ρ) then some ρ else none
  | none => none
theorem apart_spec {A B : Th} {S : Sto} {Q : DK} {E : EK} (hA : GoodTh A) (hB : GoodTh B) (k : Q (rt (apR A B)) S) : m_apart [thD A, thD B] S Q E := by
  refine e_apart ?_
  unfold t_apart
  walk_at "bl"
  refine faces_spec hA ?_
  unfold fcsD
  walk_at "bl"
  refine forD_map (f := fcD) (fun fs e s => ∃ o2 o3 o4, e = [some (thD A), some (thD B), o2, o3, o4] ∧ s = S ∧ (∀ f ∈ fs, FcGood 12 f) ∧ (fs.findSome? fun f => (facesL B).findSome? fun g => hit f g).getD ⟨0, 0, 0⟩ = apR A B) ?_ ?_ (facesL A) ⟨_, _, _, rfl, rfl, faces_good hA, rfl⟩
  · rintro f fs e s ⟨o2, o3, o4, rfl, rfl, hg, ha⟩
    refine ⟨_, rfl, fun N' hnx _ hrt _ _ => ?_⟩
    show sFor _ _ _ [some (thD A), some (thD B), some (fcD f), o3, o4] _ _
    walk_at "bl"
    refine faces_spec hB ?_
    unfold fcsD
    walk_at "bl"
    refine forD_map (f := fcD) (fun gs e s' => ∃ o3 o4, e = [some (thD A), some (thD B), some (fcD f), o3, o4] ∧ s' = s ∧ (∀ g ∈ gs, FcGood 12 g) ∧ ((gs.findSome? fun g => hit f g).or (fs.findSome? fun f => (facesL B).findSome? fun g => hit f g)).getD ⟨0, 0, 0⟩ = apR A B) ?_ ?_ (facesL B) ⟨_, _, rfl, rfl, faces_good hB, ?_⟩
    · rintro g gs e s' ⟨o3, o4, rfl, rfl, hg2, ha2⟩
      refine ⟨_, rfl, fun N2 hnx2 _ hrt2 _ _ => ?_⟩
      show sSeq _ _ [some (thD A), some (thD B), some (fcD f), some (fcD g), o4] _ _
      have gf := hg f (List.mem_cons_self ..)
      have gg := hg2 g (List.mem_cons_self ..)
      walk_at "bl"
      refine faces_apart_spec gf gg ?_
      cases h : farP f g with
      | none =>
        have hh : hit f g = none := by unfold hit; rw [h]
        rw [List.findSome?_cons, hh] at ha2
        walk_at "bl"
        refine Go.ifBT (c := isN (optD none)) rfl ?_
        walk_at "bl"
        exact hnx2 _ _ ⟨_, _, rfl, rfl, fun y hy => hg2 y (List.mem_cons_of_mem _ hy), ha2⟩
      | some ρ =>
        obtain ⟨ok, _⟩ := far_ok h
        obtain ⟨s1, s2⟩ := far_sr gf gg h
        walk_at "bl"
        refine Go.ifBF (c := isN (optD (some ρ))) rfl ?_
        walk_at "bl"
        refine root_sign_spec s1 s2 ok.s ok.q0 (by decide) ?_
        walk_at "bl"
        refine Go.ifD (fun hp => ?_) fun hp => ?_
        · have hh : hit f g = some ρ := by unfold hit; rw [h]; exact if_pos hp
          rw [List.findSome?_cons, hh] at ha2
          have e : ρ = apR A B := ha2
          walk_at "bl"
          rw [hrt2, hrt]
          rw [e]
          exact k
        · have hh : hit f g = none := by unfold hit; rw [h]; exact if_neg hp
          rw [List.findSome?_cons, hh] at ha2
          exact hnx2 _ _ ⟨_, _, rfl, rfl, fun y hy => hg2 y (List.mem_cons_of_mem _ hy), ha2⟩
    · rintro e s' ⟨o3, o4, rfl, rfl, _, ha2⟩
      exact hnx _ _ ⟨_, _, _, rfl, rfl, fun y hy => hg y (List.mem_cons_of_mem _ hy), ha2⟩
    · rw [List.findSome?_cons] at ha
      rw [← ha]
      cases (List.findSome? (fun g => hit f g) (facesL B)) <;> rfl
  · rintro e s ⟨o2, o3, o4, rfl, rfl, _, ha⟩
    walk_at "bl"
    refine from_frac_spec (r := 0) ?_
    have e : (⟨0, 0, 0⟩ : Rt) = apR A B := ha
    rw [e]
    exact k
end Ld

namespace Ld
open PySem PySem.Spec PyProof.Rows L2 Bl Lb Rl Rs
local macro_rules | `(tactic| walk_at "bl0") => `(tactic| (with_reducible (first
  | (refine Go.gVr ?_; first | refine Go.vr0 ?_ | refine Go.vr1 ?_ | refine Go.vr2 ?_ | refine Go.vr3 ?_ | refine Go.vr4 ?_ | refine Go.vr5 ?_ | refine Go.vr6 ?_ | refine Go.vr7 ?_ | refine Go.vr8 ?_ | refine Go.vr9 ?_ | refine Go.vr10 ?_ | refine Go.vr11 ?_ | refine Go.vr12 ?_ | refine Go.vr13 ?_ | refine Go.vr14 ?_ | refine Go.vr15 ?_ | refine Go.vr16 ?_ | refine Go.vr17 ?_ | refine Go.vr18 ?_ | refine Go.vr19 ?_ | refine Go.vr20 ?_ | refine Go.vr21 ?_ | refine Go.vr22 ?_ | refine Go.vr23 ?_)
  | refine Go.seq ?_
  | refine Go.nx' ?_
  | refine Go.ret ?_
  | refine Go.if' ?_
  | refine Go.asg ?_
  | refine Go.par ?_
  | refine Go.drop ?_
  | refine Go.brk ?_
  | refine Go.cnt ?_
  | refine Go.raise ?_
  | refine Go.thru ?_
  | refine Go.tryAs ?_
  | refine Go.for' ?_
  | refine Go.sub ?_
  | refine Go.retN ?_
  | refine Go.par_cons ?_
  | refine Go.par_nil ?_
  | refine Go.cn' ?_
  | refine Go.two ?_
  | refine Go.nil ?_
  | refine Go.cons ?_
  | refine Go.tup ?_
  | refine Go.lst ?_
  | refine Go.lstR ?_
  | refine Go.tbl' ?_
  | refine Go.tblK' ?_
  | refine Go.ttr' ?_
  | refine Go.truB ?_
  | refine Go.truI ?_
  | refine Go.truN ?_
  | refine Go.and' ?_
  | refine Go.or' ?_
  | refine Go.not' ?_
  | refine Go.vOf' ?_
  | refine Go.vNot' ?_
  | refine Go.eIf' ?_
  | refine Go.ifT ?_
  | refine Go.ifF ?_
  | refine Go.ifN ?_
  | refine Go.add ?_
  | refine Go.sub' ?_
  | refine Go.lt ?_
  | refine Go.le ?_
  | refine Go.gt ?_
  | refine Go.ge ?_
  | refine Go.eqI ?_
  | refine Go.neI ?_
  | refine Go.is' ?_
  | refine Go.isNot' ?_
  | refine Go.chain ?_
  | refine Go.dB' ?_
  | refine Go.neg ?_
  | refine Go.neg' ?_
  | refine Go.abs' ?_
  | refine Go.lenT ?_
  | refine Go.lenL ?_
  | refine Go.max' ?_
  | refine Go.min' ?_
  | refine Go.intI ?_
  | refine Go.intB ?_
  | refine Go.tupL ?_
  | refine Go.tupT ?_
  | refine Go.isi ?_
  | refine Go.call ?_
  | refine Go.iVal' ?_
  | refine Go.iValT ?_
  | refine Go.iValL ?_
  | refine Go.r1 ?_
  | refine Go.r2 ?_
  | refine Go.star ?_
  | refine Go.l_cons ?_
  | refine Go.l_nil ?_
  | refine Go.enum' ?_
  | refine Go.rev' ?_
  | refine Go.zip' ?_
  | refine Go.wipe_nil ?_
  | refine Go.wipe_cons ?_
  | refine Go.iadd ?_
  | refine Go.sl ?_
  | refine Go.oN ?_
  | refine Go.oS ?_
  | refine Go.osK' ?_
  | refine Go.getL ?_
  | refine Go.lc ?_
  | refine Go.lcR ?_
  | refine Go.lg_nil ?_
  | refine Go.lg_cons ?_
  | refine Go.yes ?_
  | refine Go.for_nil ?_
  | refine Go.for_cons ?_
  | refine Go.revT ?_
  | refine Go.revL ?_
  | refine Go.zipT ?_
  | refine Go.zipL ?_
  | refine Go.tupK' rfl ?_
  | refine Go.lstK' rfl ?_
  | refine Go.callK' rfl rfl ?_
  | refine Go.lcL rfl ?_
  | refine Go.getLL' rfl ?_
  | refine Go.addT rfl ?_
  | (refine Go.gAsg ?_; first | refine Go.set0 ?_ | refine Go.set1 ?_ | refine Go.set2 ?_ | refine Go.set3 ?_ | refine Go.set4 ?_ | refine Go.set5 ?_ | refine Go.set6 ?_ | refine Go.set7 ?_ | refine Go.set8 ?_ | refine Go.set9 ?_ | refine Go.set10 ?_ | refine Go.set11 ?_ | refine Go.set12 ?_ | refine Go.set13 ?_ | refine Go.set14 ?_ | refine Go.set15 ?_ | refine Go.set16 ?_ | refine Go.set17 ?_ | refine Go.set18 ?_ | refine Go.set19 ?_ | refine Go.set20 ?_ | refine Go.set21 ?_ | refine Go.set22 ?_ | refine Go.set23 ?_ | refine Go.tp_cons ?_ | refine Go.tp_nil ?_)
  | (refine Go.gIxT ?_; first | refine Go.ixT0 ?_ | refine Go.ixT1 ?_ | refine Go.ixT2 ?_ | refine Go.ixT3 ?_ | refine Go.ixT4 ?_ | refine Go.ixT5 ?_ | refine Go.ixT6 ?_ | refine Go.ixT7 ?_)
  | (refine Go.gIxL ?_; first | refine Go.ixL0 ?_ | refine Go.ixL1 ?_ | refine Go.ixL2 ?_ | refine Go.ixL3 ?_ | refine Go.ixL4 ?_ | refine Go.ixL5 ?_ | refine Go.ixL6 ?_ | refine Go.ixL7 ?_)
  | (refine Go.gAug ?_; first | refine Go.aug0 ?_ | refine Go.aug1 ?_ | refine Go.aug2 ?_ | refine Go.aug3 ?_ | refine Go.aug4 ?_ | refine Go.aug5 ?_ | refine Go.aug6 ?_ | refine Go.aug7 ?_ | refine Go.aug8 ?_ | refine Go.aug9 ?_ | refine Go.aug10 ?_ | refine Go.aug11 ?_ | refine Go.aug12 ?_ | refine Go.aug13 ?_ | refine Go.aug14 ?_ | refine Go.aug15 ?_ | refine Go.aug16 ?_ | refine Go.aug17 ?_ | refine Go.aug18 ?_ | refine Go.aug19 ?_ | refine Go.aug20 ?_ | refine Go.aug21 ?_ | refine Go.aug22 ?_ | refine Go.aug23 ?_)
  | (refine Go.gStar ?_; first | refine Go.startup0 ?_ | refine Go.starlst0 ?_ | refine Go.startup1 ?_ | refine Go.starlst1 ?_ | refine Go.startup2 ?_ | refine Go.starlst2 ?_ | refine Go.startup3 ?_ | refine Go.starlst3 ?_ | refine Go.startup4 ?_ | refine Go.starlst4 ?_ | refine Go.startup_2 ?_ | refine Go.starlst_2 ?_ | refine Go.startup_3 ?_ | refine Go.starlst_3 ?_ | refine Go.startup_4 ?_ | refine Go.starlst_4 ?_)
  | refine Go.slfT1 ?_ | refine Go.sltT1 ?_ | refine Go.slfL1 ?_ | refine Go.sltL1 ?_ | refine Go.slfT2 ?_ | refine Go.sltT2 ?_ | refine Go.slfL2 ?_ | refine Go.sltL2 ?_ | refine Go.slfT3 ?_ | refine Go.sltT3 ?_ | refine Go.slfL3 ?_ | refine Go.sltL3 ?_ | refine Go.slfT4 ?_ | refine Go.sltT4 ?_ | refine Go.slfL4 ?_ | refine Go.sltL4 ?_
  | (refine Go.gUns ?_; first | refine Go.uns0 ?_ | refine Go.uns1 ?_ | refine Go.uns2 ?_ | refine Go.uns3 ?_ | refine Go.uns4 ?_ | refine Go.uns5 ?_ | refine Go.uns6 ?_ | refine Go.uns7 ?_ | refine Go.uns8 ?_ | refine Go.uns9 ?_ | refine Go.uns10 ?_ | refine Go.uns11 ?_ | refine Go.uns12 ?_ | refine Go.uns13 ?_ | refine Go.uns14 ?_ | refine Go.uns15 ?_ | refine Go.uns16 ?_ | refine Go.uns17 ?_ | refine Go.uns18 ?_ | refine Go.uns19 ?_ | refine Go.uns20 ?_ | refine Go.uns21 ?_ | refine Go.uns22 ?_ | refine Go.uns23 ?_)
  | refine Go.entup0 ?_ | refine Go.enlst0 ?_ | refine Go.entup1 ?_ | refine Go.enlst1 ?_ | refine Go.entup2 ?_ | refine Go.enlst2 ?_ | refine Go.entup3 ?_ | refine Go.enlst3 ?_ | refine Go.entup4 ?_ | refine Go.enlst4 ?_ | refine Go.entup5 ?_ | refine Go.enlst5 ?_ | refine Go.entup6 ?_ | refine Go.enlst6 ?_)))
local macro_rules | `(tactic| walk_at "bl1") => `(tactic| first | ((with_reducible refine Go.gEqS ?_); (first | refine Go.eqS (b := true) ⟨rfl, by decide +kernel⟩ ⟨rfl, by decide +kernel⟩ rfl ?_ | refine Go.eqS (b := false) ⟨rfl, by decide +kernel⟩ ⟨rfl, by decide +kernel⟩ rfl ?_)) | ((with_reducible refine Go.gNeS ?_); (first | refine Go.neS (b := true) ⟨rfl, by decide +kernel⟩ ⟨rfl, by decide +kernel⟩ rfl ?_ | refine Go.neS (b := false) ⟨rfl, by decide +kernel⟩ ⟨rfl, by decide +kernel⟩ rfl ?_)) | walk_at "bl0" | ((with_reducible refine Go.gAll ?_); (refine Go.allB (by rfl) ?_)) | ((with_reducible refine Go.gIxT ?_); (refine Go.ixT (by rfl) ?_)) | ((with_reducible refine Go.gIxL ?_); (refine Go.ixL (by rfl) ?_)))
local macro_rules | `(tactic| walk_at "bl") => `(tactic| (repeat walk_at "bl1"))
local macro_rules | `(tactic| walk_at "bl0") => `(tactic| (with_reducible (first | refine Go.zipS' ?_ | refine Go.zipR' ?_ | refine Go.seqT ?_ | refine Go.seqL ?_ | refine Go.zipST rfl ?_ | refine Go.zipSL rfl ?_ | refine Go.for_zc ?_ | refine Go.for_zn ?_ | refine Go.lg_zc ?_ | refine Go.lg_zn ?_)))
theorem okL2_th (t u : Th) : okN 3 (.lst [thD t, thD u]) := by
  have one : ∀ t : Th, okN 2 (thD t) := fun t => by
    cases t <;> exact okN_tup (okNs_cons (okN_str ⟨rfl, by decide +kernel⟩) (okNs_all fun d hd => by
      simp only [List.mem_cons, List.not_mem_nil, or_false] at hd
      rcases hd with rfl | hd <;> first | exact okN_pr _ _ | (rcases hd with rfl | hd <;> first | exact okN_pr _ _ | (subst hd; exact okN_pr _ _)) | (subst hd; exact okN_pr _ _)))
  exact okN_lst (okNs_cons (one t) (okNs_cons (one u) okNs_nil))
theorem place2_spec {a : Addr} {wide : Int} {A B : Th} {S : Sto} {Q : DK} {E : EK} (hb : Bg S a) (h0 : 0 < wide) (h1 : wide ≤ 1000) (hA : TIn 1000 A) (hB : TIn 1000 B) (k : ∀ P S', PR 40 P → Bg S' a → Q (plD P) S') : m_l_place [.ref a, .int wide, .lst [thD A, thD B]] S Q E := by
  refine e_l_place ?_
  unfold t_l_place
  walk_at "bl"
  refine take_spec hb (by omega) (sm_k (by decide)) fun way S1 w0 w1 b1 _ => ?_
  walk_at "bl"
  refine part_spec b1 h0 h1 fun r1 S2 sr1 b2 _ => ?_
  walk_at "bl"
  refine part_spec b2 h0 h1 fun r2 S3 sr2 b3 _ => ?_
  walk_at "bl"
  have done : Q (.tup [fr r1, fr r2]) S3 := k (r1, r2) S3 ⟨sr1.mono (by decide), sr2.mono (by decide)⟩ b3
  refine Go.ifD (fun hw => ?_) fun hw => ?_
  · walk_at "bl"
    exact done
  walk_at "bl"
  refine ⟨(okL2_th A B).ok (by decide), (okN_lst okNs_nil).ok (n := 1) (by decide), ?_⟩
  rw [show eqD (.lst [thD A, thD B]) (.lst []) = false from rfl]
  walk_at "bl"
  rw [show (([thD A, thD B] : List D).length : Int) = 2 from rfl]
  refine take_spec b3 (by decide) (sm_k (by decide)) fun z S4 z0 z1 b4 _ => ?_
  obtain ⟨t, ht, ez⟩ : ∃ t, TIn 1000 t ∧ atI [thD A, thD B] z = some (thD t) := by
    rcases (by omega : z = 0 ∨ z = 1) with h | h <;> subst h
    · exact ⟨A, hA, atI_0⟩
    · exact ⟨B, hB, atI_1⟩
  walk_at "bl"
  refine Go.ixL ez ?_
  walk_at "bl"
  obtain ⟨wd, ew⟩ := thD_pts t
  have hp := pts_in ht
  have hl : 0 < (ptsL t).length ∧ (ptsL t).length ≤ 3 := by cases t <;> (unfold ptsL; simp)
  rw [ew]
  have hlen : ((((ptsL t).map pt).length : Nat) : Int) = (ptsL t).length := by rw [List.length_map]
  have sl : sm 9000 ((ptsL t).length : Int) := (show sm 8 _ by unfold sm; omega).mono (by decide)
  walk_at "bl"
  rw [hlen]
  refine take_spec b4 (by omega) sl fun i S5 i0 i1 b5 _ => ?_
  obtain ⟨p, hpm, ep⟩ := at_pts i0 i1
  refine Go.ixT ep ?_
  walk_at "bl"
  rw [hlen]
  refine take_spec b5 (by omega) sl fun j S6 j0 j1 b6 _ => ?_
  obtain ⟨q, hqm, eq⟩ := at_pts j0 j1
  refine Go.ixT eq ?_
  walk_at "bl"
  refine take_spec b6 (by decide) (sm_k (by decide)) fun m S7 m0 m1 b7 _ => ?_
  obtain ⟨g, hg, eg⟩ := manys m0 m1
  refine Go.ixL eg ?_
  have p1 := hp p hpm
  have q1 := hp q hqm
  have lim : ∀ {x y : Int}, x.natAbs ≤ 1000 → y.natAbs ≤ 1000 → ((y - x) * g).natAbs ≤ 10000 := fun {x y} hx hy => by
    rw [Int.natAbs_mul]
    exact Nat.le_trans (Nat.mul_le_mul (show (y - x).natAbs ≤ 2000 by omega) hg) (by decide)
  have s10 : ∀ {x : Int}, x.natAbs ≤ 1000 → sm 10 x := fun h => by unfold sm; omega
  have s11 : ∀ {x y : Int}, x.natAbs ≤ 1000 → y.natAbs ≤ 1000 → sm 11 (y - x) := fun h h' => by unfold sm; omega
  have sg : sm 3 g := by unfold sm; omega
  have s3 : sm 2 3 := by unfold sm; decide
  walk_at "bl"
  refine Go.lstRK' rfl fun c hc => ?_
  have ne : a ≠ c := fun z => by
    obtain ⟨c1, m1, e, _⟩ := b7
    rw [z, hc] at e
    cases e
  have bgs : ∀ {S : Sto} {l : List D}, Bg S a → Bg (sup S c l) a := fun {S l} h => by
    obtain ⟨c1, m1, e, z⟩ := h
    exact ⟨c1, m1, by rw [sup_ne ne]; exact e, z⟩
  walk_at "bl"
  refine appG rfl sup_same ?_
  walk_at "bl"
  refine Go.mul ((s10 p1.1).cmul s3 (by decide)) ?_
  walk_at "bl"
  refine Go.mul ((s11 p1.1 q1.1).cmul sg (by decide)) ?_
  walk_at "bl"
  have l1 := lim p1.1 q1.1
  have l2 := lim p1.2 q1.2
  have p1a := p1.1
  have p1b := p1.2
  refine third_spec (by omega) fun sr3 => ?_
  generalize (((p.1 * 3 + (q.1 - p.1) * g : Int) : Rat) / ((3 : Int) : Rat)) = f1 at *
  walk_at "bl"
  refine appK sup_same rfl ?_
  walk_at "bl"
  refine appG rfl sup_same ?_
  walk_at "bl"
  refine Go.mul ((s10 p1.2).cmul s3 (by decide)) ?_
  walk_at "bl"
  refine Go.mul ((s11 p1.2 q1.2).cmul sg (by decide)) ?_
  walk_at "bl"
  refine third_spec (by omega) fun sr4 => ?_
  generalize (((p.2 * 3 + (q.2 - p.2) * g : Int) : Rat) / ((3 : Int) : Rat)) = f2 at *
  walk_at "bl"
  refine appK sup_same rfl ?_
  have b8 : Bg (sup (sup (sup S7 c []) c ([] ++ [fr f1])) c ([] ++ [fr f1] ++ [fr f2])) a := bgs (bgs (bgs b7))
  walk_at "bl"
  refine Go.ifD (fun hw1 => ?_) fun hw1 => ?_
  · walk_at "bl"
    refine Go.mul ((s11 p1.1 q1.1).cmul sg (by decide)) ?_
    walk_at "bl"
    refine third_spec (by omega) fun sr5 => ?_
    generalize ((((q.1 - p.1) * g : Int) : Rat) / ((3 : Int) : Rat)) = f3 at *
    walk_at "bl"
    refine Go.mul ((s11 p1.2 q1.2).cmul sg (by decide)) ?_
    walk_at "bl"
    refine third_spec (by omega) fun sr6 => ?_
    generalize ((((q.2 - p.2) * g : Int) : Rat) / ((3 : Int) : Rat)) = f4 at *
    walk_at "bl"
    refine Go.ixR sup_same atI_0 ?_
    walk_at "bl"
    refine sum_spec (b := -f4) (n := 15) (by rw [Rat.neg_num]; omega) (by rw [Rat.neg_den]) sr3 sr6.neg (by decide) ?_
    walk_at "bl"
    refine Go.ixR sup_same atI_1 ?_
    walk_at "bl"
    refine sum_spec (b := f3) (n := 15) rfl rfl sr4 sr5 (by decide) ?_
    walk_at "bl"
    refine Go.lstRK' rfl fun c2 hc2 => ?_
    have ne2 : a ≠ c2 := fun z => by
      obtain ⟨c1, m1, e, _⟩ := b8
      rw [z, hc2] at e
      cases e
    walk_at "bl"
    refine Go.ixR sup_same atI_0 ?_
    walk_at "bl"
    refine Go.ixR sup_same atI_1 ?_
    walk_at "bl"
    refine k (f1 + -f4, f2 + f3) _ ⟨(sr3.add sr6.neg).mono (by decide), (sr4.add sr5).mono (by decide)⟩ ?_
    obtain ⟨c1, m1, e, z⟩ := b8
    exact ⟨c1, m1, by rw [sup_ne ne2]; exact e, z⟩
  · walk_at "bl"
    refine Go.ixR sup_same atI_0 ?_
    walk_at "bl"
    refine Go.ixR sup_same atI_1 ?_
    walk_at "bl"
    exact k (f1, f2) _ ⟨sr3.mono (by decide), sr4.mono (by decide)⟩ b8
/-! changed -/
theorem rat_shift (r : Rat) (t : Int) : D.tup [.int (r.num + t * (r.den : Int)), .int (r.den : Int)] = fr (r + (t : Rat)) := by
  have red : Nat.Coprime (r.num + t * (r.den : Int)).natAbs r.den := by
    have h := r.reduced
    have h2 : Int.gcd (r.num + t * (r.den : Int)) (r.den : Int) = Int.gcd r.num (r.den : Int) := by
      rw [Int.gcd_comm, Int.gcd_comm r.num]
      exact Int.gcd_add_mul_right_right ..
    have h3 : Int.gcd r.num (r.den : Int) = 1 := h
    have : Int.gcd (r.num + t * (r.den : Int)) (r.den : Int) = 1 := by rw [h2, h3]
    exact this
  have e : (⟨r.num + t * (r.den : Int), r.den, r.den_nz, red⟩ : Rat) = r + (t : Rat) := by
    have e1 := num_den (⟨r.num + t * (r.den : Int), r.den, r.den_nz, red⟩ : Rat)
    have e2 := num_den r
    dsimp only at e1
    rw [Rat.intCast_add, Rat.intCast_mul, ← e2] at e1
    have d0 := castne (den_ne r)
    generalize (⟨r.num + t * (r.den : Int), r.den, r.den_nz, red⟩ : Rat) = q at *
    generalize ((r.den : Int) : Rat) = d at *
    have z : (q - (r + (t : Rat))) * d = 0 := by grind
    rcases Rat.mul_eq_zero.mp z with w | w
    · grind
    · exact absurd w d0
  rw [← e]
theorem more_int {i t : Int} {S : Sto} {Q : DK} {E : EK} (k : Q (.int (i + t)) S) : m_l_more [.int i, .int t] S Q E := by
  refine e_l_more ?_
  unfold t_l_more
  walk_at "bl"
  refine Go.isiK' (isi_int i) ?_
  walk_at "bl"
  exact k
theorem isi_tup_i (ds : List D) : isiD "int" (.tup ds) = some false := by
  show L2.kitB "tuple" "int" = some false
  decide +kernel
theorem more_fr {r : Rat} {t : Int} {n : Nat} {S : Sto} {Q : DK} {E : EK} (hr : sr n r) (ht : sm n t) (hn : n ≤ 1000) (k : Q (fr (r + (t : Rat))) S) : m_l_more [fr r, .int t] S Q E := by
  refine e_l_more ?_
  unfold t_l_more
  walk_at "bl"
  refine Go.isiK' (isi_tup_i _) ?_
  walk_at "bl"
  refine Go.mul (ht.cmul hr.d (by omega)) ?_
  walk_at "bl"
  rw [rat_shift]
  exact k
theorem less_int {i : Int} {S : Sto} {Q : DK} {E : EK} (k : Q (.int (0 - i)) S) : m_l_less [.int i] S Q E := by
  refine e_l_less ?_
  unfold t_l_less
  walk_at "bl"
  refine Go.isiK' (isi_int i) ?_
  walk_at "bl"
  exact k
theorem less_fr {r : Rat} {S : Sto} {Q : DK} {E : EK} (k : Q (fr (-r)) S) : m_l_less [fr r] S Q E := by
  refine e_l_less ?_
  unfold t_l_less
  walk_at "bl"
  refine Go.isiK' (isi_tup_i _) ?_
  walk_at "bl"
  rw [Lr.neg_fr]
  exact k
/-- the five ways -/
def wyP : Nat → P2 → P2 → P2
  | 0, t, p => mvP (.shift t) p
  | 1, _, p => mvP .turn p
  | 2, _, p => mvP .turn (mvP .turn p)
  | 3, _, p => mvP .turn (mvP .turn (mvP .turn p))
  | _, _, p => mvP .mirror p
def wyR : Nat → P2 → R2 → R2
  | 0, t, p => mvR (.shift t) p
  | 1, _, p => mvR .turn p
  | 2, _, p => mvR .turn (mvR .turn p)
  | 3, _, p => mvR .turn (mvR .turn (mvR .turn p))
  | _, _, p => mvR .mirror p
def wyT : Nat → P2 → Th → Th
  | 0, t, p => mvT (.shift t) p
  | 1, _, p => mvT .turn p
  | 2, _, p => mvT .turn (mvT .turn p)
  | 3, _, p => mvT .turn (mvT .turn (mvT .turn p))
  | _, _, p => mvT .mirror p
theorem changed_pt {w : Nat} (hw : w < 5) {t p : P2} {S : Sto} {Q : DK} {E : EK} (k : Q (pt (wyP w t p)) S) : m_l_changed [.int (w : Int), pt p, pt t] S Q E := by
  refine e_l_changed ?_
  unfold t_l_changed
  rcases (by omega : w = 0 ∨ w = 1 ∨ w = 2 ∨ w = 3 ∨ w = 4) with h | h | h | h | h <;> subst h
  · walk_at "bl"
    refine Go.ifDT rfl ?_
    walk_at "bl"
    refine more_int ?_
    walk_at "bl"
    refine more_int ?_
    walk_at "bl"
    exact k
  · walk_at "bl"
    refine Go.ifDF (by decide) ?_
    walk_at "bl"
    refine Go.ifDT (by decide) ?_
    walk_at "bl"
    refine Go.r1' (n := 1) rfl (by decide) ?_
    rw [show rngD 0 1 = [D.int 0] from rfl]
    walk_at "bl"
    refine less_int ?_
    walk_at "bl"
    exact k
  · walk_at "bl"
    refine Go.ifDF (by decide) ?_
    walk_at "bl"
    refine Go.ifDT (by decide) ?_
    walk_at "bl"
    refine Go.r1' (n := 2) rfl (by decide) ?_
    rw [show rngD 0 2 = [D.int 0, D.int 1] from rfl]
    walk_at "bl"
    refine less_int ?_
    walk_at "bl"
    refine less_int ?_
    walk_at "bl"
    exact k
  · walk_at "bl"
    refine Go.ifDF (by decide) ?_
    walk_at "bl"
    refine Go.ifDT (by decide) ?_
    walk_at "bl"
    refine Go.r1' (n := 3) rfl (by decide) ?_
    rw [show rngD 0 3 = [D.int 0, D.int 1, D.int 2] from rfl]
    walk_at "bl"
    refine less_int ?_
    walk_at "bl"
    refine less_int ?_
    walk_at "bl"
    refine less_int ?_
    walk_at "bl"
    exact k
  · walk_at "bl"
    refine Go.ifDF (by decide) ?_
    walk_at "bl"
    refine Go.ifDF (by decide) ?_
    walk_at "bl"
    refine less_int ?_
    walk_at "bl"
    exact k
theorem changed_pl {w : Nat} (hw : w < 5) {t : P2} {P : R2} {S : Sto} {Q : DK} {E : EK} (hP : PR 100 P) (ht1 : sm 100 t.1) (ht2 : sm 100 t.2) (k : Q (plD (wyR w t P)) S) : m_l_changed [.int (w : Int), plD P, pt t] S Q E := by
  refine e_l_changed ?_
  unfold t_l_changed
  rcases (by omega : w = 0 ∨ w = 1 ∨ w = 2 ∨ w = 3 ∨ w = 4) with h | h | h | h | h <;> subst h
  · walk_at "bl"
    refine Go.ifDT rfl ?_
    walk_at "bl"
    refine more_fr hP.x ht1 (by decide) ?_
    walk_at "bl"
    refine more_fr hP.y ht2 (by decide) ?_
    walk_at "bl"
    exact k
  · walk_at "bl"
    refine Go.ifDF (by decide) ?_
    walk_at "bl"
    refine Go.ifDT (by decide) ?_
    walk_at "bl"
    refine Go.r1' (n := 1) rfl (by decide) ?_
    rw [show rngD 0 1 = [D.int 0] from rfl]
    walk_at "bl"
    refine less_fr ?_
    walk_at "bl"
    exact k
  · walk_at "bl"
    refine Go.ifDF (by decide) ?_
    walk_at "bl"
    refine Go.ifDT (by decide) ?_
    walk_at "bl"
    refine Go.r1' (n := 2) rfl (by decide) ?_
    rw [show rngD 0 2 = [D.int 0, D.int 1] from rfl]
    walk_at "bl"
    refine less_fr ?_
    walk_at "bl"
    refine less_fr ?_
    walk_at "bl"
    exact k
  · walk_at "bl"
    refine Go.ifDF (by decide) ?_
    walk_at "bl"
    refine Go.ifDT (by decide) ?_
    walk_at "bl"
    refine Go.r1' (n := 3) rfl (by decide) ?_
    rw [show rngD 0 3 = [D.int 0, D.int 1, D.int 2] from rfl]
    walk_at "bl"
    refine less_fr ?_
    walk_at "bl"
    refine less_fr ?_
    walk_at "bl"
    refine less_fr ?_
    walk_at "bl"
    exact k
  · walk_at "bl"
    refine Go.ifDF (by decide) ?_
    walk_at "bl"
    refine Go.ifDF (by decide) ?_
    walk_at "bl"
    refine less_fr ?_
    walk_at "bl"
    exact k
theorem thing_changed_spec {w : Nat} (hw : w < 5) {t : P2} {T : Th} {S : Sto} {Q : DK} {E : EK} (k : Q (thD (wyT w t T)) S) : m_l_thing_changed [.int (w : Int), thD T, pt t] S Q E := by
  refine e_l_thing_changed ?_
  unfold t_l_thing_changed
  cases T with
  | spot p =>
    have ew : thD (.spot p) = .tup [.str "spot", pt p] := rfl
    rw [ew]
    have e : thD (wyT w t (.spot p)) = .tup [.str "spot", pt (wyP w t p)] := by
      rcases (by omega : w = 0 ∨ w = 1 ∨ w = 2 ∨ w = 3 ∨ w = 4) with h | h | h | h | h <;> subst h <;> rfl
    rw [e] at k
    walk_at "bl"
    refine changed_pt hw ?_
    walk_at "bl"
    refine Go.ifD (fun h => ?_) fun h => ?_
    · walk_at "bl"
      exact k
    · walk_at "bl"
      exact k
  | cord p q =>
    have ew : thD (.cord p q) = .tup [.str "cord", pt p, pt q] := rfl
    rw [ew]
    have e : thD (wyT w t (.cord p q)) = .tup [.str "cord", pt (wyP w t p), pt (wyP w t q)] := by
      rcases (by omega : w = 0 ∨ w = 1 ∨ w = 2 ∨ w = 3 ∨ w = 4) with h | h | h | h | h <;> subst h <;> rfl
    rw [e] at k
    walk_at "bl"
    refine changed_pt hw ?_
    walk_at "bl"
    refine changed_pt hw ?_
    walk_at "bl"
    refine Go.ifD (fun h => ?_) fun h => ?_
    · walk_at "bl"
      exact k
    · walk_at "bl"
      exact k
  | bow c p q =>
    have ew : thD (.bow c p q) = .tup [.str "bow", pt c, pt p, pt q] := rfl
    rw [ew]
    walk_at "bl"
    refine changed_pt hw ?_
    walk_at "bl"
    refine changed_pt hw ?_
    walk_at "bl"
    refine changed_pt hw ?_
    walk_at "bl"
    refine Go.ifD (fun h => ?_) fun h => ?_
    · have e : thD (wyT w t (.bow c p q)) = .tup [.str "bow", pt (wyP w t c), pt (wyP w t q), pt (wyP w t p)] := by
        have : w = 4 := by omega
        subst this
        rfl
      rw [e] at k
      walk_at "bl"
      exact k
    · have e : thD (wyT w t (.bow c p q)) = .tup [.str "bow", pt (wyP w t c), pt (wyP w t p), pt (wyP w t q)] := by
        rcases (by omega : w = 0 ∨ w = 1 ∨ w = 2 ∨ w = 3) with h | h | h | h <;> subst h <;> rfl
      rw [e] at k
      walk_at "bl"
      exact k
end Ld

namespace Ld
open PySem PySem.Spec PyProof.Rows L2 Bl Lb Rl Rs
local macro_rules | `(tactic| walk_at "bl0") => `(tactic| (with_reducible (first
  | (refine Go.gVr ?_; first | refine Go.vr0 ?_ | refine Go.vr1 ?_ | refine Go.vr2 ?_ | refine Go.vr3 ?_ | refine Go.vr4 ?_ | refine Go.vr5 ?_ | refine Go.vr6 ?_ | refine Go.vr7 ?_ | refine Go.vr8 ?_ | refine Go.vr9 ?_ | refine Go.vr10 ?_ | refine Go.vr11 ?_ | refine Go.vr12 ?_ | refine Go.vr13 ?_ | refine Go.vr14 ?_ | refine Go.vr15 ?_ | refine Go.vr16 ?_ | refine Go.vr17 ?_ | refine Go.vr18 ?_ | refine Go.vr19 ?_ | refine Go.vr20 ?_ | refine Go.vr21 ?_ | refine Go.vr22 ?_ | refine Go.vr23 ?_)
  | refine Go.seq ?_
  | refine Go.nx' ?_
  | refine Go.ret ?_
  | refine Go.if' ?_
  | refine Go.asg ?_
  | refine Go.par ?_
  | refine Go.drop ?_
  | refine Go.brk ?_
  | refine Go.cnt ?_
  | refine Go.raise ?_
  | refine Go.thru ?_
  | refine Go.tryAs ?_
  | refine Go.for' ?_
  | refine Go.sub ?_
  | refine Go.retN ?_
  | refine Go.par_cons ?_
  | refine Go.par_nil ?_
  | refine Go.cn' ?_
  | refine Go.two ?_
  | refine Go.nil ?_
  | refine Go.cons ?_
  | refine Go.tup ?_
  | refine Go.lst ?_
  | refine Go.lstR ?_
  | refine Go.tbl' ?_
  | refine Go.tblK' ?_
  | refine Go.ttr' ?_
  | refine Go.truB ?_
  | refine Go.truI ?_
  | refine Go.truN ?_
  | refine Go.and' ?_
  | refine Go.or' ?_
  | refine Go.not' ?_
  | refine Go.vOf' ?_
  | refine Go.vNot' ?_
  | refine Go.eIf' ?_
  | refine Go.ifT ?_
  | refine Go.ifF ?_
  | refine Go.ifN ?_
  | refine Go.add ?_
  | refine Go.sub' ?_
  | refine Go.lt ?_
  | refine Go.le ?_
  | refine Go.gt ?_
  | refine Go.ge ?_
  | refine Go.eqI ?_
  | refine Go.neI ?_
  | refine Go.is' ?_
  | refine Go.isNot' ?_
  | refine Go.chain ?_
  | refine Go.dB' ?_
  | refine Go.neg ?_
  | refine Go.neg' ?_
  | refine Go.abs' ?_
  | refine Go.lenT ?_
  | refine Go.lenL ?_
  | refine Go.max' ?_
  | refine Go.min' ?_
  | refine Go.intI ?_
  | refine Go.intB ?_
  | refine Go.tupL ?_
  | refine Go.tupT ?_
  | refine Go.isi ?_
  | refine Go.call ?_
  | refine Go.iVal' ?_
  | refine Go.iValT ?_
  | refine Go.iValL ?_
  | refine Go.r1 ?_
  | refine Go.r2 ?_
  | refine Go.star ?_
  | refine Go.l_cons ?_
  | refine Go.l_nil ?_
  | refine Go.enum' ?_
  | refine Go.rev' ?_
  | refine Go.zip' ?_
  | refine Go.wipe_nil ?_
  | refine Go.wipe_cons ?_
  | refine Go.iadd ?_
  | refine Go.sl ?_
  | refine Go.oN ?_
  | refine Go.oS ?_
  | refine Go.osK' ?_
  | refine Go.getL ?_
  | refine Go.lc ?_
  | refine Go.lcR ?_
  | refine Go.lg_nil ?_
  | refine Go.lg_cons ?_
  | refine Go.yes ?_
  | refine Go.for_nil ?_
  | refine Go.for_cons ?_
  | refine Go.revT ?_
  | refine Go.revL ?_
  | refine Go.zipT ?_
  | refine Go.zipL ?_
  | refine Go.tupK' rfl ?_
  | refine Go.lstK' rfl ?_
  | refine Go.callK' rfl rfl ?_
  | refine Go.lcL rfl ?_
  | refine Go.getLL' rfl ?_
  | refine Go.addT rfl ?_
  | (refine Go.gAsg ?_; first | refine Go.set0 ?_ | refine Go.set1 ?_ | refine Go.set2 ?_ | refine Go.set3 ?_ | refine Go.set4 ?_ | refine Go.set5 ?_ | refine Go.set6 ?_ | refine Go.set7 ?_ | refine Go.set8 ?_ | refine Go.set9 ?_ | refine Go.set10 ?_ | refine Go.set11 ?_ | refine Go.set12 ?_ | refine Go.set13 ?_ | refine Go.set14 ?_ | refine Go.set15 ?_ | refine Go.set16 ?_ | refine Go.set17 ?_ | refine Go.set18 ?_ | refine Go.set19 ?_ | refine Go.set20 ?_ | refine Go.set21 ?_ | refine Go.set22 ?_ | refine Go.set23 ?_ | refine Go.tp_cons ?_ | refine Go.tp_nil ?_)
  | (refine Go.gIxT ?_; first | refine Go.ixT0 ?_ | refine Go.ixT1 ?_ | refine Go.ixT2 ?_ | refine Go.ixT3 ?_ | refine Go.ixT4 ?_ | refine Go.ixT5 ?_ | refine Go.ixT6 ?_ | refine Go.ixT7 ?_)
  | (refine Go.gIxL ?_; first | refine Go.ixL0 ?_ | refine Go.ixL1 ?_ | refine Go.ixL2 ?_ | refine Go.ixL3 ?_ | refine Go.ixL4 ?_ | refine Go.ixL5 ?_ | refine Go.ixL6 ?_ | refine Go.ixL7 ?_)
  | (refine Go.gAug ?_; first | refine Go.aug0 ?_ | refine Go.aug1 ?_ | refine Go.aug2 ?_ | refine Go.aug3 ?_ | refine Go.aug4 ?_ | refine Go.aug5 ?_ | refine Go.aug6 ?_ | refine Go.aug7 ?_ | refine Go.aug8 ?_ | refine Go.aug9 ?_ | refine Go.aug10 ?_ | refine Go.aug11 ?_ | refine Go.aug12 ?_ | refine Go.aug13 ?_ | refine Go.aug14 ?_ | refine Go.aug15 ?_ | refine Go.aug16 ?_ | refine Go.aug17 ?_ | refine Go.aug18 ?_ | refine Go.aug19 ?_ | refine Go.aug20 ?_ | refine Go.aug21 ?_ | refine Go.aug22 ?_ | refine Go.aug23 ?_)
  | (refine Go.gStar ?_; first | refine Go.startup0 ?_ | refine Go.starlst0 ?_ | refine Go.startup1 ?_ | refine Go.starlst1 ?_ | refine Go.startup2 ?_ | refine Go.starlst2 ?_ | refine Go.startup3 ?_ | refine Go.starlst3 ?_ | refine Go.startup4 ?_ | refine Go.starlst4 ?_ | refine Go.startup_2 ?_ | refine Go.starlst_2 ?_ | refine Go.startup_3 ?_ | refine Go.starlst_3 ?_ | refine Go.startup_4 ?_ | refine Go.starlst_4 ?_)
  | refine Go.slfT1 ?_ | refine Go.sltT1 ?_ | refine Go.slfL1 ?_ | refine Go.sltL1 ?_ | refine Go.slfT2 ?_ | refine Go.sltT2 ?_ | refine Go.slfL2 ?_ | refine Go.sltL2 ?_ | refine Go.slfT3 ?_ | refine Go.sltT3 ?_ | refine Go.slfL3 ?_ | refine Go.sltL3 ?_ | refine Go.slfT4 ?_ | refine Go.sltT4 ?_ | refine Go.slfL4 ?_ | refine Go.sltL4 ?_
  | (refine Go.gUns ?_; first | refine Go.uns0 ?_ | refine Go.uns1 ?_ | refine Go.uns2 ?_ | refine Go.uns3 ?_ | refine Go.uns4 ?_ | refine Go.uns5 ?_ | refine Go.uns6 ?_ | refine Go.uns7 ?_ | refine Go.uns8 ?_ | refine Go.uns9 ?_ | refine Go.uns10 ?_ | refine Go.uns11 ?_ | refine Go.uns12 ?_ | refine Go.uns13 ?_ | refine Go.uns14 ?_ | refine Go.uns15 ?_ | refine Go.uns16 ?_ | refine Go.uns17 ?_ | refine Go.uns18 ?_ | refine Go.uns19 ?_ | refine Go.uns20 ?_ | refine Go.uns21 ?_ | refine Go.uns22 ?_ | refine Go.uns23 ?_)
  | refine Go.entup0 ?_ | refine Go.enlst0 ?_ | refine Go.entup1 ?_ | refine Go.enlst1 ?_ | refine Go.entup2 ?_ | refine Go.enlst2 ?_ | refine Go.entup3 ?_ | refine Go.enlst3 ?_ | refine Go.entup4 ?_ | refine Go.enlst4 ?_ | refine Go.entup5 ?_ | refine Go.enlst5 ?_ | refine Go.entup6 ?_ | refine Go.enlst6 ?_)))
local macro_rules | `(tactic| walk_at "bl1") => `(tactic| first | ((with_reducible refine Go.gEqS ?_); (first | refine Go.eqS (b := true) ⟨rfl, by decide +kernel⟩ ⟨rfl, by decide +kernel⟩ rfl ?_ | refine Go.eqS (b := false) ⟨rfl, by decide +kernel⟩ ⟨rfl, by decide +kernel⟩ rfl ?_)) | ((with_reducible refine Go.gNeS ?_); (first | refine Go.neS (b := true) ⟨rfl, by decide +kernel⟩ ⟨rfl, by decide +kernel⟩ rfl ?_ | refine Go.neS (b := false) ⟨rfl, by decide +kernel⟩ ⟨rfl, by decide +kernel⟩ rfl ?_)) | walk_at "bl0" | ((with_reducible refine Go.gAll ?_); (refine Go.allB (by rfl) ?_)) | ((with_reducible refine Go.gIxT ?_); (refine Go.ixT (by rfl) ?_)) | ((with_reducible refine Go.gIxL ?_); (refine Go.ixL (by rfl) ?_)))
local macro_rules | `(tactic| walk_at "bl") => `(tactic| (repeat walk_at "bl1"))
local macro_rules | `(tactic| walk_at "bl0") => `(tactic| (with_reducible (first | refine Go.zipS' ?_ | refine Go.zipR' ?_ | refine Go.seqT ?_ | refine Go.seqL ?_ | refine Go.zipST rfl ?_ | refine Go.zipSL rfl ?_ | refine Go.for_zc ?_ | refine Go.for_zn ?_ | refine Go.lg_zc ?_ | refine Go.lg_zn ?_)))
/-! ### roots by whole numbers -/
def sc24 : Int := 10 ^ 24
theorem sc24_pos : 0 < sc24 := by unfold sc24; decide
theorem sc24_sm : sm 80 sc24 := by unfold sm sc24; decide +kernel
def partI (x : Rt) : Int := x.b.num * sc24 / (x.b.den : Int) + x.s * ((isq (x.q.num * sc24 * sc24 / (x.q.den : Int)).toNat : Nat) : Int)
structure Sz (x : Rt) : Prop where
  ok : Ok x
  cn : Cn x
  b : sr 1000 x.b
  q : sr 1000 x.q
theorem fitting_spec {x y z : Rt} {S : Sto} {Q : DK} {E : EK} (hx : Sz x) (hy : Sz y) (hz : Sz z) (h : val x ≤ val y + val z) (k : ∀ S', Up S S' → Q (.bl true) S') : m_l_are_fitting [rt x, rt y, rt z] S Q E := by
  refine e_l_are_fitting ?_
  unfold t_l_are_fitting
  walk_at "bl"
  refine Go.lstRK' rfl fun c hc => ?_
  walk_at "bl"
  have turn : ∀ (x : Rt) (ds : List D) (s : Sto) (o4 o5 o6 o7 : Option D) (X Y Z : Option D) (N : Nd), Sz x → s c = some ds → ds.length < 10 → (∀ s' o5 o6 o7, s' = sup s c (ds ++ [.int (partI x)]) → N.nx [X, Y, Z, some (.ref c), some (rt x), o5, o6, o7] s') →
      (sSeq (sAsg (dTwo (cn (.int 10)) (cn (.int 24)) fPow) (.nm 5)) (sSeq (sAsg (dTwo (dTwo (dTwo (dTwo (vr 4) (cn (.int 0)) fIx) (cn (.int 0)) fIx) (vr 5) fMul) (dTwo (dTwo (vr 4) (cn (.int 0)) fIx) (cn (.int 1)) fIx) fDiv) (.nm 6)) (sSeq (sAsg (dTwo (dTwo (dTwo (dTwo (dTwo (vr 4) (cn (.int 2)) fIx) (cn (.int 0)) fIx) (vr 5) fMul) (vr 5) fMul) (dTwo (dTwo (vr 4) (cn (.int 2)) fIx) (cn (.int 1)) fIx) fDiv) (.nm 7)) (sDrop (dLm gApp (vr 3) (aCons (dTwo (vr 6) (dTwo (dTwo (vr 4) (cn (.int 1)) fIx) (dCall m_l_rooted 1 0 (fun ds _ => ds) (aCons (vr 7) (aNil)) aNil) fMul) fAdd) (aNil))))))) [X, Y, Z, some (.ref c), some (rt x), o5, o6, o7] s N := by
    intro x ds s o4 o5 o6 o7 X Y Z N hx hs hl hn
    have pb := den_pos x.b
    have pq := den_pos x.q
    have q0 := Rat.num_nonneg.mpr hx.ok.q0
    have s24 := sc24_sm
    have ss : sm 2 x.s := by have := hx.ok.s; unfold sm; omega
    have N0 : 0 ≤ x.q.num * sc24 * sc24 := Int.mul_nonneg (Int.mul_nonneg q0 (by have := sc24_pos; omega)) (by have := sc24_pos; omega)
    have f0 : 0 ≤ x.q.num * sc24 * sc24 / (x.q.den : Int) := Int.ediv_nonneg N0 (by omega)
    have fs : sm 1160 (x.q.num * sc24 * sc24 / (x.q.den : Int)) := by
      have h1 := Int.ediv_le_self (x.q.den : Int) N0
      have h2 := (hx.q.n.mul s24).mul s24
      unfold sm at *
      omega
    obtain ⟨nx, rr, bk, ct, ex⟩ := N
    walk_at "bl"
    refine ⟨by decide, by decide, ?_⟩
    rw [show (10 : Int) ^ (24 : Int).toNat = sc24 from rfl]
    walk_at "bl"
    refine Go.mul (hx.b.n.cmul s24 (by decide)) ?_
    walk_at "bl"
    refine Go.div (hx.b.d.cdiv (by omega) (by decide)) ?_
    walk_at "bl"
    refine Go.mul (hx.q.n.cmul s24 (by decide)) ?_
    walk_at "bl"
    refine Go.mul ((hx.q.n.mul s24).cmul s24 (by decide)) ?_
    walk_at "bl"
    refine Go.div (hx.q.d.cdiv (by omega) (by decide)) ?_
    walk_at "bl"
    rw [Int.fdiv_eq_ediv_of_nonneg (x.b.num * sc24) (by omega), Int.fdiv_eq_ediv_of_nonneg (x.q.num * sc24 * sc24) (by omega)]
    refine appG rfl hs ?_
    walk_at "bl"
    refine rooted_spec f0 fs (by decide) ?_
    walk_at "bl"
    refine Go.mul (ss.cmul (isq_sm f0 fs) (by decide)) ?_
    walk_at "bl"
    refine Go.appK hs (by omega) ?_
    exact hn _ _ _ _ rfl
  refine turn x [] _ none none none none _ _ _ ⟨_, _, _, _, _⟩ hx sup_same (by decide) fun s1 o5 o6 o7 e1 => ?_
  subst e1
  dsimp only
  walk_at "bl"
  refine turn y _ _ none _ _ _ _ _ _ ⟨_, _, _, _, _⟩ hy sup_same (by decide : 1 < 10) fun s1 o5 o6 o7 e1 => ?_
  subst e1
  dsimp only
  walk_at "bl"
  refine turn z _ _ none _ _ _ _ _ _ ⟨_, _, _, _, _⟩ hz sup_same (by decide : 2 < 10) fun s1 o5 o6 o7 e1 => ?_
  subst e1
  dsimp only
  walk_at "bl"
  refine Go.ixR sup_same atI_0 ?_
  walk_at "bl"
  refine Go.ixR sup_same atI_1 ?_
  walk_at "bl"
  refine Go.ixR sup_same atI_2 ?_
  walk_at "bl"
  have p1 := part_val hx.ok sc24_pos
  have p2 := part_val hy.ok sc24_pos
  have p3 := part_val hz.ok sc24_pos
  have le : partI x ≤ partI y + partI z + 9 := by
    have S0 := o_pos sc24_pos
    have m := mul_nn' (show 0 ≤ val y + val z - val x by grind) (show 0 ≤ o sc24 by grind)
    have a1 : o (partI x) - 1 ≤ val x * o sc24 := p1.1
    have a2 : val y * o sc24 < o (partI y) + 2 := p2.2
    have a3 : val z * o sc24 < o (partI z) + 2 := p3.2
    rw [← o_le, o_add, o_add]
    have e9 : o 9 = 9 := rfl
    rw [e9]
    grind
  rw [decide_eq_true le]
  refine k _ ?_
  exact (((Up.refl S).sup hc).sup hc |>.sup hc |>.sup hc)
/-! sizes -/
theorem fd_sz {P : R2} {f : Fc} (hP : PR 100 P) (hf : FcGood 12 f) : sr 1000 (fdR P f).b ∧ sr 1000 (fdR P f).q := by
  cases f with
  | side a b =>
    obtain ⟨hne, ha, hb, hw⟩ := hf
    have o := outw_ok hne ha hb hw
    have l0 := lenq_pos o.ne
    have ls := lenq_sm o.s1 o.s2
    obtain ⟨d1, d2⟩ := dif_sr hP ha
    have hr : sr 250 (heightR P a b) := ((d1.mul (sr.int o.s1 (by decide))).add (d2.mul (sr.int o.s2 (by decide)))).mono (by decide)
    have li : sr 40 ((lenq (outw a b) : Int) : Rat) := sr.int (ls.mono (by decide)) (by decide)
    refine ⟨?_, sr.zero.mono (by decide : 1 ≤ 1000)⟩
    show sr 1000 (heightR P a b / ((lenq (outw a b) : Int) : Rat))
    rw [Rat.div_def]
    exact (hr.mul (sr_inv (castne (by omega)) li)).mono (by decide)
  | round c r f l =>
    obtain ⟨_, _, hc, hr0, hr⟩ := hf
    obtain ⟨x, y, _⟩ := canon_sr (b := ((0 - r : Int) : Rat)) (s := 1) (n := 40) (sr.int (((sm.of (n := 25) (by decide)).sub hr).mono (by decide)) (by decide)) (nrm_sr hP hc) (nrm_nonneg _) (.inr (.inr rfl))
    exact ⟨x.mono (by decide), y.mono (by decide)⟩
theorem dist_sz {T : Th} {P : R2} (hT : GoodTh T) (hP : PR 100 P) : Sz (distR T P) := by
  obtain ⟨a, b⟩ := dist_ok T P
  refine ⟨a, b, ?_, ?_⟩
  · unfold distR
    cases h : firstR T P with
    | none => exact sr.zero.mono (by decide : 1 ≤ 1000)
    | some f => exact (fd_sz hP (faces_good hT f (List.mem_of_find?_eq_some h))).1
  · unfold distR
    cases h : firstR T P with
    | none => exact sr.zero.mono (by decide : 1 ≤ 1000)
    | some f => exact (fd_sz hP (faces_good hT f (List.mem_of_find?_eq_some h))).2
theorem ap_sz {A B : Th} (hA : GoodTh A) (hB : GoodTh B) : Sz (apR A B) := by
  obtain ⟨a, b⟩ := ap_ok A B
  rcases apR_cases A B with ⟨f, hf, g, hg, ρ, h, _, e⟩ | ⟨e, _⟩
  · obtain ⟨s1, s2⟩ := far_sr (faces_good hA f hf) (faces_good hB g hg) h
    exact ⟨a, b, by rw [e]; exact s1.mono (by decide), by rw [e]; exact s2.mono (by decide)⟩
  · exact ⟨a, b, by rw [e]; exact sr.zero.mono (by decide : 1 ≤ 1000), by rw [e]; exact sr.zero.mono (by decide : 1 ≤ 1000)⟩
theorem rt_eqb (x y : Rt) : eqD (rt x) (rt y) = (decide (x.b = y.b) && ((x.s == y.s) && (decide (x.q = y.q) && true))) := by
  have e : eqD (rt x) (rt y) = (eqD (fr x.b) (fr y.b) && ((x.s == y.s) && (eqD (fr x.q) (fr y.q) && true))) := rfl
  rw [e, eq_fr, eq_fr]
theorem zero_none {T : Th} (hT : GoodTh T) (P : R2) : eqD (rt (distR T P)) (rt ⟨0, 0, 0⟩) = eqD (.tup ((idxF P 0 (facesL T)).map D.int)) (.tup []) := by
  obtain ⟨_, z⟩ := dist_nst hT P
  obtain ⟨a, b⟩ := dist_ok T P
  rcases idx_head P (facesL T) 0 with ⟨h1, h2⟩ | ⟨j, r, f, h1, h2, h3⟩
  · have e : distR T P = ⟨0, 0, 0⟩ := by
      unfold distR firstR
      rw [h2]
    rw [h1, e]
    exact rt_eq rfl
  · have hn : firstR T P ≠ none := by
      unfold firstR
      rw [h2]
      simp
    have ne : distR T P ≠ ⟨0, 0, 0⟩ := fun w => hn (z.mp (by rw [w, val_fr, Real.of_zero]))
    rw [h1, rt_eqb]
    rw [show eqD (.tup (((0 + (j : Int)) :: r).map D.int)) (.tup []) = false from rfl]
    rw [Bool.eq_false_iff]
    intro w
    simp only [Bool.and_eq_true, decide_eq_true_eq, beq_iff_eq, and_true] at w
    apply ne
    cases e : distR T P
    rw [e] at w
    simp only at w
    rw [w.1, w.2.1, w.2.2]
theorem contrary_spec {r : Rat} {S : Sto} {Q : DK} {E : EK} (k : Q (fr (-r)) S) : m_l_contrary [fr r] S Q E := by
  refine e_l_contrary ?_
  unfold t_l_contrary
  walk_at "bl"
  rw [Lr.neg_fr]
  exact k
theorem product_spec {a b : Rat} {m n : Nat} {S : Sto} {Q : DK} {E : EK} (ha : sr m a) (hb : sr n b) (hn : m + n ≤ 8900) (k : Q (fr (a * b)) S) : m_l_product [fr a, fr b] S Q E := by
  refine e_l_product ?_
  unfold t_l_product
  walk_at "bl"
  refine Go.mul (ha.n.cmul hb.n (by omega)) ?_
  walk_at "bl"
  refine Go.mul (ha.d.cmul hb.d (by omega)) ?_
  walk_at "bl"
  have e1 := num_den a
  have e2 := num_den b
  refine low_spec (n := m + n) (show 0 < (a.den : Int) * b.den from Int.mul_pos (den_pos a) (den_pos b)) (ha.n.mul hb.n) (ha.d.mul hb.d) hn ?_ k
  simp only [Rat.intCast_mul]
  grind
theorem okN_idx (ns : List Int) : okN 1 (.tup (ns.map D.int)) := okN_tup (okNs_all fun d hd => by
  obtain ⟨i, _, rfl⟩ := List.mem_map.mp hd
  exact okN_int i)
theorem places_right_spec {A B : Th} {Ps : List R2} {S : Sto} {Q : DK} {E : EK} (hA : GoodTh A) (hB : GoodTh B) (hP : ∀ P ∈ Ps, PR 40 P) (k : ∀ S', Up S S' → Q (.bl true) S') : m_l_places_right [thD A, thD B, .lst (Ps.map plD)] S Q E := by
  refine e_l_places_right ?_
  unfold t_l_places_right
  walk_at "bl"
  refine apart_spec hA hB ?_
  walk_at "bl"
  refine forD_map (f := plD) (fun ps e s => ∃ o4 o5 o6 o7 o8, e = [some (thD A), some (thD B), some (.lst (Ps.map plD)), some (rt (apR A B)), o4, o5, o6, o7, o8] ∧ Up S s ∧ ∀ P ∈ ps, PR 40 P) ?_ ?_ Ps ⟨_, _, _, _, _, rfl, Up.refl S, hP⟩
  · rintro P ps e s ⟨o4, o5, o6, o7, o8, rfl, hu, hp⟩
    refine ⟨_, rfl, fun N' hnx _ hrt _ _ => ?_⟩
    show sSeq _ _ [some (thD A), some (thD B), some (.lst (Ps.map plD)), some (rt (apR A B)), some (plD P), o5, o6, o7, o8] _ _
    have pP := hp P (List.mem_cons_self ..)
    have pP' : PR 100 P := ⟨pP.x.mono (by decide), pP.y.mono (by decide)⟩
    walk_at "bl"
    refine distance_spec hA (.place P) pP (by decide) ?_
    walk_at "bl"
    refine Go.eq' (ok_rt _) (ok_rt ⟨0, 0, 0⟩) ?_
    walk_at "bl"
    refine faces_at_spec hA (.place P) pP (by decide) ?_
    walk_at "bl"
    refine Go.eq' ((okN_idx _).ok (by decide)) ((okN_tup okNs_nil).ok (n := 1) (by decide)) ?_
    rw [show eqD (rt (distR A P)) (D.tup [D.tup [D.int 0, D.int 1], D.int 0, D.tup [D.int 0, D.int 1]]) = eqD (rt (distR A P)) (rt ⟨0, 0, 0⟩) from rfl, zero_none hA P]
    generalize eqD (.tup ((idxF P 0 (facesL A)).map D.int)) (.tup []) = b
    refine Go.ne' ⟨rfl, rfl⟩ ⟨rfl, rfl⟩ ?_
    rw [show eqD (.bl b) (.bl b) = true by cases b <;> rfl]
    walk_at "bl"
    refine distance_spec hA (.place P) pP (by decide) ?_
    walk_at "bl"
    refine distance_spec hB (.place P) pP (by decide) ?_
    walk_at "bl"
    refine fitting_spec (ap_sz hA hB) (dist_sz hA pP') (dist_sz hB pP') (fit_gap hA hB P) fun S1 u1 => ?_
    walk_at "bl"
    refine forD_map (f := plD) (fun qs e s' => ∃ o5 o6 o7 o8, e = [some (thD A), some (thD B), some (.lst (Ps.map plD)), some (rt (apR A B)), some (plD P), o5, o6, o7, o8] ∧ Up S s' ∧ ∀ P ∈ qs, PR 40 P) ?_ ?_ Ps ⟨_, _, _, _, rfl, hu.trans u1, hP⟩
    · rintro F qs e s' ⟨o5, o6, o7, o8, rfl, hu2, hq⟩
      refine ⟨_, rfl, fun N2 hnx2 _ hrt2 _ _ => ?_⟩
      show sSeq _ _ [some (thD A), some (thD B), some (.lst (Ps.map plD)), some (rt (apR A B)), some (plD P), some (plD F), o6, o7, o8] _ _
      have pF := hq F (List.mem_cons_self ..)
      have pF' : PR 100 F := ⟨pF.x.mono (by decide), pF.y.mono (by decide)⟩
      have sx : sr 81 (P.1 + -F.1) := (pP.x.add pF.x.neg).mono (by decide)
      have sy : sr 81 (P.2 + -F.2) := (pP.y.add pF.y.neg).mono (by decide)
      walk_at "bl"
      refine contrary_spec ?_
      walk_at "bl"
      refine sum_spec (b := -F.1) (n := 40) rfl rfl pP.x pF.x.neg (by decide) ?_
      walk_at "bl"
      refine contrary_spec ?_
      walk_at "bl"
      refine sum_spec (b := -F.2) (n := 40) rfl rfl pP.y pF.y.neg (by decide) ?_
      walk_at "bl"
      refine product_spec sx sx (by decide) ?_
      walk_at "bl"
      refine product_spec sy sy (by decide) ?_
      walk_at "bl"
      have s2 : sr 325 ((P.1 + -F.1) * (P.1 + -F.1) + (P.2 + -F.2) * (P.2 + -F.2)) := ((sx.mul sx).add (sy.mul sy)).mono (by decide)
      refine sum_spec (b := (P.2 + -F.2) * (P.2 + -F.2)) (n := 162) rfl rfl (sx.mul sx) (sy.mul sy) (by decide) ?_
      have q0 : 0 ≤ (P.1 + -F.1) * (P.1 + -F.1) + (P.2 + -F.2) * (P.2 + -F.2) := by
        have := Lb.sq_nonneg (P.1 + -F.1)
        have := Lb.sq_nonneg (P.2 + -F.2)
        grind
      walk_at "bl"
      refine lroot_spec (b := 0) (n := 325) (sm.of (by decide +kernel)) s2 q0 (by decide) ?_
      walk_at "bl"
      refine distance_spec hA (.place P) pP (by decide) ?_
      walk_at "bl"
      refine distance_spec hA (.place F) pF (by decide) ?_
      walk_at "bl"
      have szl : Sz (canon ((0 : Int) : Rat) 1 ((P.1 + -F.1) * (P.1 + -F.1) + (P.2 + -F.2) * (P.2 + -F.2))) := by
        obtain ⟨x, y, _⟩ := canon_sr (b := ((0 : Int) : Rat)) (s := 1) (n := 1) (sr.int (sm.of (by decide)) (by decide)) s2 q0 (.inr (.inr rfl))
        exact ⟨canon_ok q0 (by decide), canon_cn .., x.mono (by decide), y.mono (by decide)⟩
      refine fitting_spec (dist_sz hA pP') (dist_sz hA pF') szl ?_ fun S2 u2 => ?_
      · rw [canon_val q0, of_int1, show Real.of ((0 : Int) : Rat) = 0 from rfl]
        have := fit_way hA P F (q := (P.1 + -F.1) * (P.1 + -F.1) + (P.2 + -F.2) * (P.2 + -F.2)) (by grind)
        grind
      walk_at "bl"
      exact hnx2 _ _ ⟨_, _, _, _, rfl, hu2.trans u2, fun y hy => hq y (List.mem_cons_of_mem _ hy)⟩
    · rintro e s' ⟨o5, o6, o7, o8, rfl, hu2, _⟩
      exact hnx _ _ ⟨_, _, _, _, _, rfl, hu2, fun y hy => hp y (List.mem_cons_of_mem _ hy)⟩
  · rintro e s ⟨o4, o5, o6, o7, o8, rfl, hu, _⟩
    walk_at "bl"
    exact k s hu
end Ld

namespace Ld.K18
open PySem PySem.Spec PyProof.Rows L2 Bl Lb
def t_law : TSd := sSeq (sFor (iR1 (aCons (dB bMax (aCons (cn (.int 1)) (aCons (dB bMin (aCons (cn (.int 3)) (aCons (dB bLen (aCons (vr 0) (aNil))) (aNil)))) (aNil)))) (aNil))) (.nm 1) (sSeq (sAsg (dCall m_l_bag 2 0 (fun ds _ => ds) (aCons (vr 0) (aCons (vr 1) (aNil))) aNil) (.nm 2)) (sSeq (sAsg (dCall m_l_thing 3 0 (fun ds _ => ds) (aCons (vr 2) (aCons (cn (.int 30)) (aCons (dCall m_l_take 2 0 (fun ds _ => ds) (aCons (vr 2) (aCons (cn (.int 7)) (aNil))) aNil) (aNil)))) aNil) (.nm 3)) (sSeq (sAsg (dCall m_l_thing 3 0 (fun ds _ => ds) (aCons (vr 2) (aCons (cn (.int 30)) (aCons (dCall m_l_take 2 0 (fun ds _ => ds) (aCons (vr 2) (aCons (cn (.int 7)) (aNil))) aNil) (aNil)))) aNil) (.nm 4)) (sSeq (sAsg (dLc (iR1 (aCons (cn (.int 4)) (aNil))) (.nm 12) (tYesD) (dCall m_l_place 3 0 (fun ds _ => ds) (aCons (vr 2) (aCons (cn (.int 30)) (aCons (dLst (aCons (vr 3) (aCons (vr 4) (aNil)))) (aNil)))) aNil) [11, 12]) (.nm 5)) (sSeq (sIf (tNotD (ttr (dCall m_l_places_right 3 0 (fun ds _ => ds) (aCons (vr 3) (aCons (vr 4) (aCons (vr 5) (aNil)))) aNil))) (sRet (cn (.bl false))) (sNx)) (sSeq (sAsg (dTup (aCons (dTwo (dCall m_l_take 2 0 (fun ds _ => ds) (aCons (vr 2) (aCons (cn (.int 99)) (aNil))) aNil) (cn (.int 49)) fSub) (aCons (dTwo (dCall m_l_take 2 0 (fun ds _ => ds) (aCons (vr 2) (aCons (cn (.int 99)) (aNil))) aNil) (cn (.int 49)) fSub) (aNil)))) (.nm 6)) (sFor (iR1 (aCons (cn (.int 5)) (aNil))) (.nm 7) (sSeq (sPar [8, 9] (aCons (dCall m_l_thing_changed 3 0 (fun ds _ => ds) (aCons (vr 7) (aCons (vr 3) (aCons (vr 6) (aNil)))) aNil) (aCons (dCall m_l_thing_changed 3 0 (fun ds _ => ds) (aCons (vr 7) (aCons (vr 4) (aCons (vr 6) (aNil)))) aNil) (aNil)))) (sSeq (sIf (tbl (dTwo (dCall m_apart 2 0 (fun ds _ => ds) (aCons (vr 8) (aCons (vr 9) (aNil))) aNil) (dCall m_apart 2 0 (fun ds _ => ds) (aCons (vr 3) (aCons (vr 4) (aNil))) aNil) fNe)) (sRet (cn (.bl false))) (sNx)) (sFor (iVal (vr 5)) (.nm 10) (sIf (tbl (dTwo (dCall m_distance 2 0 (fun ds _ => ds) (aCons (vr 8) (aCons (dCall m_l_changed 3 0 (fun ds _ => ds) (aCons (vr 7) (aCons (vr 10) (aCons (vr 6) (aNil)))) aNil) (aNil))) aNil) (dCall m_distance 2 0 (fun ds _ => ds) (aCons (vr 3) (aCons (vr 10) (aNil))) aNil) fNe)) (sRet (cn (.bl false))) (sNx))))))))))))) (sRet (cn (.bl true)))
def m_law : TFd := fnD 1 13 t_law
theorem e_law {a0 : D} {S : Sto} {Q : DK} {E : EK} (k : t_law [some a0, none, none, none, none, none, none, none, none, none, none, none, none] S ⟨fun _ S1 => Q .non S1, Q, fun _ _ => False, fun _ _ => False, fun x _ S1 => E x S1⟩) : m_law [a0] S Q E := ⟨rfl, k⟩
end Ld.K18

namespace Ld.K18
open PySem PySem.Spec PyProof.Rows L2 Bl Lb
local macro_rules | `(tactic| walk_at "mo") => `(tactic| (repeat' first
  | exact moVr _ | exact moCn _ | exact moYesD | exact moNilA | exact moONone | exact moAdd | exact moSub | exact moMul | exact moDiv | exact moMod | exact moPow | exact moShl | exact moLt | exact moLe | exact moGt | exact moGe | exact moEq | exact moNe | exact moIs | exact moIsNot | exact moIn _ | exact moIx | exact moCat | exact moRep01 | exact moCatR | exact moNeR | refine moSortSet ?_
  | (with_reducible refine moTup ?_) | (with_reducible refine moLst ?_) | refine moTwo ?_ ?_ ?_ | refine moConsA ?_ ?_ | refine moTup ?_ | refine moLst ?_ | refine moTbl ?_ | refine moTtr ?_ | refine moAndD ?_ ?_ | refine moOrD ?_ ?_ | refine moNotD ?_ | refine moVOf ?_ | refine moEIf ?_ ?_ ?_ | refine moNeg ?_ | refine moChain ?_ ?_ ?_ ?_ ?_ | refine moSl ?_ ?_ ?_ | refine moOSome ?_ | refine moIsi ?_
  | refine moCall ?_ ?_ ?_ | refine moLc ?_ ?_ ?_ | refine moRvs ?_ ?_ | refine moLcG ?_ ?_ ?_ | refine moIVal ?_ | refine moR1 ?_ | refine moR2 ?_ | refine moEnumD ?_ | refine moRevD ?_ | refine moZipD ?_ ?_ | refine moZipSD ?_ ?_ | refine moZipRD ?_ ?_ | refine moGetL ?_ ?_ ?_ | refine moB (cd_len (X := X)).mo ?_ | refine moB (cd_abs (X := X)).mo ?_ | refine moB (cd_int (X := X)).mo ?_ | refine moB (cd_tup (X := X)).mo ?_ | refine moB (cd_lst (X := X)).mo ?_))
section
variable {P : Program} {w : World} {K : PySem.W.Frag} {mg : Str → Option Value} {base : Heap}
theorem Tk_ZERO (T : Tp fa fn bx K mg) : GC K mg "ZERO" k_ZERO := gc_tupI (T.glo 14) (all_at T.bx 0 rfl)
theorem body_from_frac (T : Tp fa fn bx K mg) {X : Cx} {W : WX} (d : JD P w K mg base nm_from_frac (defScope (top 18)) vw_from_frac 0 X W) : JB X W (defBody (top 18)) t_from_frac :=
  jb_one (js_ret (je_tup (ja_cons (jv d.toJC 0 (mm 0) rfl) (ja_cons (je_int) (ja_cons (je_glob d.toJC (mm 0) (Tk_ZERO T)) (ja_nil))))))
theorem Tj_from_frac (T : Tp fa fn bx K mg) : JF P w K mg base "from_frac" 1 [] (fun ds _ => ds) 1 m_from_frac := by
  obtain ⟨fd, F⟩ := T.sy.def_ 0 (d := d_from_frac) rfl
  exact jf_mkN F fs_from_frac sc_from_frac (T.glo 15) ⟨rfl, by decide, by decide⟩ (fun _ _ _ _ _ _ us hl => match us, hl with | [_], _ => rfl) (fun X W d => body_from_frac T d)
theorem body_whole_root (T : Tp fa fn bx K mg) {X : Cx} {W : WX} (d : JD P w K mg base nm_whole_root (defScope (top 11)) vw_whole_root 0 X W) : JB X W (defBody (top 11)) t_whole_root :=
  jb_cons (js_if (jt_cmp (opD_eq d.toJC.room) (jv d.toJC 0 (mm 0) rfl) (je_int) rfl) (jb_one (js_ret (je_int))) (jb_nil)) (jb_cons (js_set d.toJC 1 rfl (.inl (d.toJC.sC.loc 1 (mm 1) _ rfl)) (je_op opD_shl (je_int) (je_op opD_div (je_op opD_add (je_bits (jv d.toJC 0 (mm 0) rfl)) (je_int)) (je_int)))) (jb_cons (js_while d (jt_cmp opD_gt (je_op opD_mul (jv d.toJC 1 (mm 1) rfl) (jv d.toJC 1 (mm 1) rfl)) (jv d.toJC 0 (mm 0) rfl) rfl) (jb_one (js_set d.toJC 1 rfl (.inl (d.toJC.sC.loc 1 (mm 1) _ rfl)) (je_op opD_div (je_op opD_add (jv d.toJC 1 (mm 1) rfl) (je_op opD_div (jv d.toJC 0 (mm 0) rfl) (jv d.toJC 1 (mm 1) rfl))) (je_int))))) (jb_one (js_ret (jv d.toJC 1 (mm 1) rfl)))))
theorem Tj_whole_root (T : Tp fa fn bx K mg) : JF P w K mg base "whole_root" 1 [] (fun ds _ => ds) 1 m_whole_root := by
  obtain ⟨fd, F⟩ := T.sy.def_ 1 (d := d_whole_root) rfl
  exact jf_mkN F fs_whole_root sc_whole_root (T.glo 23) ⟨rfl, by decide, by decide⟩ (fun _ _ _ _ _ _ us hl => match us, hl with | [_], _ => rfl) (fun X W d => body_whole_root T d)
theorem body_far_square (T : Tp fa fn bx K mg) {X : Cx} {W : WX} (d : JD P w K mg base nm_far_square (defScope (top 20)) vw_far_square 0 X W) : JB X W (defBody (top 20)) t_far_square :=
  jb_one (js_ret (je_op opD_add (je_op opD_pow (je_op opD_sub (je_ix (jv d.toJC 0 (mm 0) rfl) (je_int)) (je_ix (jv d.toJC 1 (mm 1) rfl) (je_int))) (je_int)) (je_op opD_pow (je_op opD_sub (je_ix (jv d.toJC 0 (mm 0) rfl) (je_int)) (je_ix (jv d.toJC 1 (mm 1) rfl) (je_int))) (je_int))))
theorem Tj_far_square (T : Tp fa fn bx K mg) : JF P w K mg base "far_square" 2 [] (fun ds _ => ds) 1 m_far_square := by
  obtain ⟨fd, F⟩ := T.sy.def_ 2 (d := d_far_square) rfl
  exact jf_mkN F fs_far_square sc_far_square (T.glo 22) ⟨rfl, by decide, by decide⟩ (fun _ _ _ _ _ _ us hl => match us, hl with | [_, _], _ => rfl) (fun X W d => body_far_square T d)
theorem body_step_from (T : Tp fa fn bx K mg) {X : Cx} {W : WX} (d : JD P w K mg base nm_step_from (defScope (top 23)) vw_step_from 0 X W) : JB X W (defBody (top 23)) t_step_from :=
  jb_one (js_ret (je_tup (ja_cons (je_op opD_sub (je_ix (jv d.toJC 0 (mm 0) rfl) (je_int)) (je_ix (jv d.toJC 1 (mm 1) rfl) (je_int))) (ja_cons (je_op opD_sub (je_ix (jv d.toJC 0 (mm 0) rfl) (je_int)) (je_ix (jv d.toJC 1 (mm 1) rfl) (je_int))) (ja_nil)))))
theorem Tj_step_from (T : Tp fa fn bx K mg) : JF P w K mg base "step_from" 2 [] (fun ds _ => ds) 1 m_step_from := by
  obtain ⟨fd, F⟩ := T.sy.def_ 3 (d := d_step_from) rfl
  exact jf_mkN F fs_step_from sc_step_from (T.glo 20) ⟨rfl, by decide, by decide⟩ (fun _ _ _ _ _ _ us hl => match us, hl with | [_, _], _ => rfl) (fun X W d => body_step_from T d)
theorem body_common (T : Tp fa fn bx K mg) {X : Cx} {W : WX} (d : JD P w K mg base nm_common (defScope (top 6)) vw_common 0 X W) : JB X W (defBody (top 6)) t_common :=
  jb_cons (js_par d.toJC 0 1 rfl rfl (by decide) (d.toJC.sC.loc 0 (mm 0) _ rfl) (d.toJC.sC.loc 1 (mm 1) _ rfl) (ja_cons (je_callB d.toJC cd_abs (mm 0) (T.free 25) (by decide +kernel) (ja_cons (jv d.toJC 0 (mm 0) rfl) (ja_nil))) (ja_cons (je_callB d.toJC cd_abs (mm 0) (T.free 25) (by decide +kernel) (ja_cons (jv d.toJC 1 (mm 1) rfl) (ja_nil))) (ja_nil))) (sw2 d.toJC.kd (by rw [d.toJC.ss]; exact (d.toJC.sC.loc 0 (mm 0) _ rfl)) (by rw [d.toJC.ss]; exact (d.toJC.sC.loc 1 (mm 1) _ rfl)) rfl (by decide +kernel) rfl rfl rfl)) (jb_cons (js_while d (jt_cmp (opD_ne d.toJC.room) (jv d.toJC 1 (mm 1) rfl) (je_int) rfl) (jb_one (js_par d.toJC 0 1 rfl rfl (by decide) (d.toJC.sC.loc 0 (mm 0) _ rfl) (d.toJC.sC.loc 1 (mm 1) _ rfl) (ja_cons (jv d.toJC 1 (mm 1) rfl) (ja_cons (je_op opD_mod (jv d.toJC 0 (mm 0) rfl) (jv d.toJC 1 (mm 1) rfl)) (ja_nil))) (sw2 d.toJC.kd (by rw [d.toJC.ss]; exact (d.toJC.sC.loc 0 (mm 0) _ rfl)) (by rw [d.toJC.ss]; exact (d.toJC.sC.loc 1 (mm 1) _ rfl)) rfl (by decide +kernel) rfl rfl rfl)))) (jb_one (js_ret (jv d.toJC 0 (mm 0) rfl))))
theorem Tj_common (T : Tp fa fn bx K mg) : JF P w K mg base "common" 2 [] (fun ds _ => ds) 1 m_common := by
  obtain ⟨fd, F⟩ := T.sy.def_ 4 (d := d_common) rfl
  exact jf_mkN F fs_common sc_common (T.glo 24) ⟨rfl, by decide, by decide⟩ (fun _ _ _ _ _ _ us hl => match us, hl with | [_, _], _ => rfl) (fun X W d => body_common T d)
theorem body_lowest (T : Tp fa fn bx K mg) {X : Cx} {W : WX} (d : JD P w K mg base nm_lowest (defScope (top 24)) vw_lowest 1 X W) : JB X W (defBody (top 24)) t_lowest :=
  jb_cons (js_set d.toJC 1 rfl (.inl (d.toJC.sC.loc 1 (mm 1) _ rfl)) (je_call d.toJC (Tj_common T) (by decide) (mm 0) (ja_cons (je_ix (jv d.toJC 0 (mm 0) rfl) (je_int)) (ja_cons (je_ix (jv d.toJC 0 (mm 0) rfl) (je_int)) (ja_nil))))) (jb_one (js_ret (je_tup (ja_cons (je_op opD_div (je_ix (jv d.toJC 0 (mm 0) rfl) (je_int)) (jv d.toJC 1 (mm 1) rfl)) (ja_cons (je_op opD_div (je_ix (jv d.toJC 0 (mm 0) rfl) (je_int)) (jv d.toJC 1 (mm 1) rfl)) (ja_nil))))))
theorem Tj_lowest (T : Tp fa fn bx K mg) : JF P w K mg base "lowest" 1 [] (fun ds _ => ds) 2 m_lowest := by
  obtain ⟨fd, F⟩ := T.sy.def_ 5 (d := d_lowest) rfl
  exact jf_mkN F fs_lowest sc_lowest (T.glo 21) ⟨rfl, by decide, by decide⟩ (fun _ _ _ _ _ _ us hl => match us, hl with | [_], _ => rfl) (fun X W d => body_lowest T d)
theorem body_outward (T : Tp fa fn bx K mg) {X : Cx} {W : WX} (d : JD P w K mg base nm_outward (defScope (top 25)) vw_outward 2 X W) : JB X W (defBody (top 25)) t_outward :=
  jb_cons (js_asg (je_call d.toJC (Tj_step_from T) (by decide) (mm 0) (ja_cons (jv d.toJC 1 (mm 1) rfl) (ja_cons (jv d.toJC 0 (mm 0) rfl) (ja_nil)))) (jg_tup d.toJC.calm (jgs_cons (jg_name d.toJC 2 rfl (.inl (d.toJC.sC.loc 2 (mm 2) _ rfl))) (jgs_cons (jg_name d.toJC 3 rfl (.inl (d.toJC.sC.loc 3 (mm 3) _ rfl))) (jgs_nil))))) (jb_one (js_ret (je_call d.toJC (Tj_lowest T) (by decide) (mm 1) (ja_cons (je_tup (ja_cons (jv d.toJC 3 (mm 3) rfl) (ja_cons (je_op opD_sub (je_int) (jv d.toJC 2 (mm 2) rfl)) (ja_nil)))) (ja_nil)))))
theorem Tj_outward (T : Tp fa fn bx K mg) : JF P w K mg base "outward" 2 [] (fun ds _ => ds) 3 m_outward := by
  obtain ⟨fd, F⟩ := T.sy.def_ 6 (d := d_outward) rfl
  exact jf_mkN F fs_outward sc_outward (T.glo 19) ⟨rfl, by decide, by decide⟩ (fun _ _ _ _ _ _ us hl => match us, hl with | [_, _], _ => rfl) (fun X W d => body_outward T d)
theorem body_faces (T : Tp fa fn bx K mg) {X : Cx} {W : WX} (d : JD P w K mg base nm_faces (defScope (top 26)) vw_faces 3 X W) : JB X W (defBody (top 26)) t_faces :=
  jb_cons (js_star (i := 1) (aft := 0) d.toJC.calm (jv d.toJC 0 (mm 0) rfl) (jgs_cons (jg_name d.toJC 1 rfl (.inl (d.toJC.sC.loc 1 (mm 1) _ rfl))) (jgs_cons (jg_name d.toJC 2 rfl (.inl (d.toJC.sC.loc 2 (mm 2) _ rfl))) (jgs_nil)))) (jb_cons (js_if (jt_cmp (opD_eq d.toJC.room) (jv d.toJC 1 (mm 1) rfl) (je_str) rfl) (jb_one (js_ret (je_tup (ja_cons (je_tup (ja_cons (je_str) (ja_cons (je_ix (jv d.toJC 2 (mm 2) rfl) (je_int)) (ja_cons (je_int) (ja_cons (je_tup (ja_cons (je_int) (ja_cons (je_int) (ja_nil)))) (ja_cons (je_tup (ja_cons (je_int) (ja_cons (je_int) (ja_nil)))) (ja_nil))))))) (ja_nil))))) (jb_nil)) (jb_cons (js_star (i := 0) (aft := 2) d.toJC.calm (jv d.toJC 2 (mm 2) rfl) (jgs_cons (jg_name d.toJC 3 rfl (.inl (d.toJC.sC.loc 3 (mm 3) _ rfl))) (jgs_cons (jg_name d.toJC 4 rfl (.inl (d.toJC.sC.loc 4 (mm 4) _ rfl))) (jgs_cons (jg_name d.toJC 5 rfl (.inl (d.toJC.sC.loc 5 (mm 5) _ rfl))) (jgs_nil))))) (jb_cons (js_set d.toJC 6 rfl (.inl (d.toJC.sC.loc 6 (mm 6) _ rfl)) (je_call d.toJC (Tj_outward T) (by decide) (mm 0) (ja_cons (jv d.toJC 5 (mm 5) rfl) (ja_cons (jv d.toJC 4 (mm 4) rfl) (ja_nil))))) (jb_cons (js_if (jt_cmp (opD_eq d.toJC.room) (jv d.toJC 1 (mm 1) rfl) (je_str) rfl) (jb_cons (js_set d.toJC 7 rfl (.inl (d.toJC.sC.loc 7 (mm 7) _ rfl)) (je_call d.toJC (Tj_outward T) (by decide) (mm 0) (ja_cons (jv d.toJC 4 (mm 4) rfl) (ja_cons (jv d.toJC 5 (mm 5) rfl) (ja_nil))))) (jb_one (js_ret (je_tup (ja_cons (je_tup (ja_cons (je_str) (ja_cons (jv d.toJC 4 (mm 4) rfl) (ja_cons (jv d.toJC 5 (mm 5) rfl) (ja_nil))))) (ja_cons (je_tup (ja_cons (je_str) (ja_cons (jv d.toJC 5 (mm 5) rfl) (ja_cons (je_int) (ja_cons (jv d.toJC 7 (mm 7) rfl) (ja_cons (jv d.toJC 6 (mm 6) rfl) (ja_nil))))))) (ja_cons (je_tup (ja_cons (je_str) (ja_cons (jv d.toJC 5 (mm 5) rfl) (ja_cons (jv d.toJC 4 (mm 4) rfl) (ja_nil))))) (ja_cons (je_tup (ja_cons (je_str) (ja_cons (jv d.toJC 4 (mm 4) rfl) (ja_cons (je_int) (ja_cons (jv d.toJC 6 (mm 6) rfl) (ja_cons (jv d.toJC 7 (mm 7) rfl) (ja_nil))))))) (ja_nil))))))))) (jb_nil)) (jb_cons (js_set d.toJC 8 rfl (.inl (d.toJC.sC.loc 8 (mm 8) _ rfl)) (je_ix (jv d.toJC 3 (mm 3) rfl) (je_int))) (jb_cons (js_par d.toJC 9 10 rfl rfl (by decide) (d.toJC.sC.loc 9 (mm 9) _ rfl) (d.toJC.sC.loc 10 (mm 10) _ rfl) (ja_cons (je_call d.toJC (Tj_lowest T) (by decide) (mm 1) (ja_cons (je_call d.toJC (Tj_step_from T) (by decide) (mm 2) (ja_cons (jv d.toJC 4 (mm 4) rfl) (ja_cons (jv d.toJC 8 (mm 8) rfl) (ja_nil)))) (ja_nil))) (ja_cons (je_call d.toJC (Tj_lowest T) (by decide) (mm 1) (ja_cons (je_call d.toJC (Tj_step_from T) (by decide) (mm 2) (ja_cons (jv d.toJC 5 (mm 5) rfl) (ja_cons (jv d.toJC 8 (mm 8) rfl) (ja_nil)))) (ja_nil))) (ja_nil))) (sw2 d.toJC.kd (by rw [d.toJC.ss]; exact (d.toJC.sC.loc 9 (mm 9) _ rfl)) (by rw [d.toJC.ss]; exact (d.toJC.sC.loc 10 (mm 10) _ rfl)) rfl (by decide +kernel) rfl rfl rfl)) (jb_cons (js_set d.toJC 11 rfl (.inl (d.toJC.sC.loc 11 (mm 11) _ rfl)) (je_tup (ja_cons (je_str) (ja_cons (jv d.toJC 8 (mm 8) rfl) (ja_cons (je_call d.toJC (Tj_whole_root T) (by decide) (mm 3) (ja_cons (je_call d.toJC (Tj_far_square T) (by decide) (mm 4) (ja_cons (jv d.toJC 8 (mm 8) rfl) (ja_cons (jv d.toJC 4 (mm 4) rfl) (ja_nil)))) (ja_nil))) (ja_cons (jv d.toJC 9 (mm 9) rfl) (ja_cons (jv d.toJC 10 (mm 10) rfl) (ja_nil)))))))) (jb_one (js_ret (je_tup (ja_cons (jv d.toJC 11 (mm 11) rfl) (ja_cons (je_tup (ja_cons (je_str) (ja_cons (jv d.toJC 5 (mm 5) rfl) (ja_cons (je_int) (ja_cons (jv d.toJC 10 (mm 10) rfl) (ja_cons (jv d.toJC 6 (mm 6) rfl) (ja_nil))))))) (ja_cons (je_tup (ja_cons (je_str) (ja_cons (jv d.toJC 5 (mm 5) rfl) (ja_cons (jv d.toJC 4 (mm 4) rfl) (ja_nil))))) (ja_cons (je_tup (ja_cons (je_str) (ja_cons (jv d.toJC 4 (mm 4) rfl) (ja_cons (je_int) (ja_cons (jv d.toJC 6 (mm 6) rfl) (ja_cons (jv d.toJC 9 (mm 9) rfl) (ja_nil))))))) (ja_nil)))))))))))))))
theorem Tj_faces (T : Tp fa fn bx K mg) : JF P w K mg base "faces" 1 [] (fun ds _ => ds) 4 m_faces := by
  obtain ⟨fd, F⟩ := T.sy.def_ 7 (d := d_faces) rfl
  exact jf_mkN F fs_faces sc_faces (T.glo 16) ⟨rfl, by decide, by decide⟩ (fun _ _ _ _ _ _ us hl => match us, hl with | [_], _ => rfl) (fun X W d => body_faces T d)
theorem body_as_place (T : Tp fa fn bx K mg) {X : Cx} {W : WX} (d : JD P w K mg base nm_as_place (defScope (top 10)) vw_as_place 0 X W) : JB X W (defBody (top 10)) t_as_place :=
  jb_one (js_ret (je_callTy d.toJC cd_tup (mm 0) (T.free 28) (by decide +kernel) (ja_cons (je_lc d.toJC (own := [(".0", 1), ("one", 2)]) (vw2 := vb0_as_place) (by decide +kernel) (scOf (by decide +kernel)) (by decide) (ji_val (jv d.toJC 0 (mm 0) rfl)) (fun _ c0 => jg_name c0 2 rfl (.inl (c0.sC.loc 2 (mm 1) _ rfl))) (fun _ c0 => jts_nil) (fun _ c0 => je_ifExp (jt_tru (je_isi c0 (mm 0) (T.free 29) (mm 1) (T.free 28) (by decide +kernel) (jv c0 2 (mm 1) rfl))) (jv c0 2 (mm 1) rfl) (je_tup (ja_cons (jv c0 2 (mm 1) rfl) (ja_cons (je_int) (ja_nil))))) (by walk_at "mo") (by walk_at "mo")) (ja_nil))))
theorem Tj_as_place (T : Tp fa fn bx K mg) : JF P w K mg base "as_place" 1 [] (fun ds _ => ds) 1 m_as_place := by
  obtain ⟨fd, F⟩ := T.sy.def_ 8 (d := d_as_place) rfl
  exact jf_mkN F fs_as_place sc_as_place (T.glo 26) ⟨rfl, by decide, by decide⟩ (fun _ _ _ _ _ _ us hl => match us, hl with | [_], _ => rfl) (fun X W d => body_as_place T d)
theorem body_scale_of (T : Tp fa fn bx K mg) {X : Cx} {W : WX} (d : JD P w K mg base nm_scale_of (defScope (top 13)) vw_scale_of 1 X W) : JB X W (defBody (top 13)) t_scale_of :=
  jb_cons (js_set d.toJC 1 rfl (.inl (d.toJC.sC.loc 1 (mm 1) _ rfl)) (je_int)) (jb_cons (js_for d (ji_val (jv d.toJC 0 (mm 0) rfl)) (jg_tup d.toJC.calm (jgs_cons (jg_name d.toJC 2 rfl (.inl (d.toJC.sC.loc 2 (mm 2) _ rfl))) (jgs_cons (jg_name d.toJC 3 rfl (.inl (d.toJC.sC.loc 3 (mm 3) _ rfl))) (jgs_nil)))) (jb_one (js_for d (ji_val (je_tup (ja_cons (je_ix (jv d.toJC 2 (mm 2) rfl) (je_int)) (ja_cons (je_ix (jv d.toJC 3 (mm 3) rfl) (je_int)) (ja_nil))))) (jg_name d.toJC 4 rfl (.inl (d.toJC.sC.loc 4 (mm 4) _ rfl))) (jb_one (js_set d.toJC 1 rfl (.inl (d.toJC.sC.loc 1 (mm 1) _ rfl)) (je_op opD_mul (je_op opD_div (jv d.toJC 1 (mm 1) rfl) (je_call d.toJC (Tj_common T) (by decide) (mm 0) (ja_cons (jv d.toJC 1 (mm 1) rfl) (ja_cons (jv d.toJC 4 (mm 4) rfl) (ja_nil))))) (jv d.toJC 4 (mm 4) rfl))))))) (jb_one (js_ret (jv d.toJC 1 (mm 1) rfl))))
theorem Tj_scale_of (T : Tp fa fn bx K mg) : JF P w K mg base "scale_of" 1 [] (fun ds _ => ds) 2 m_scale_of := by
  obtain ⟨fd, F⟩ := T.sy.def_ 9 (d := d_scale_of) rfl
  exact jf_mkN F fs_scale_of sc_scale_of (T.glo 27) ⟨rfl, by decide, by decide⟩ (fun _ _ _ _ _ _ us hl => match us, hl with | [_], _ => rfl) (fun X W d => body_scale_of T d)
theorem body_whole_place (T : Tp fa fn bx K mg) {X : Cx} {W : WX} (d : JD P w K mg base nm_whole_place (defScope (top 30)) vw_whole_place 2 X W) : JB X W (defBody (top 30)) t_whole_place :=
  jb_cons (js_asg (je_call d.toJC (Tj_as_place T) (by decide) (mm 0) (ja_cons (jv d.toJC 0 (mm 0) rfl) (ja_nil))) (jg_tup d.toJC.calm (jgs_cons (jg_name d.toJC 1 rfl (.inl (d.toJC.sC.loc 1 (mm 1) _ rfl))) (jgs_cons (jg_name d.toJC 2 rfl (.inl (d.toJC.sC.loc 2 (mm 2) _ rfl))) (jgs_nil))))) (jb_cons (js_set d.toJC 3 rfl (.inl (d.toJC.sC.loc 3 (mm 3) _ rfl)) (je_call d.toJC (Tj_scale_of T) (by decide) (mm 1) (ja_cons (je_lst (ja_cons (je_tup (ja_cons (jv d.toJC 1 (mm 1) rfl) (ja_cons (jv d.toJC 2 (mm 2) rfl) (ja_nil)))) (ja_nil))) (ja_nil)))) (jb_one (js_ret (je_tup (ja_cons (je_op opD_mul (je_ix (jv d.toJC 1 (mm 1) rfl) (je_int)) (je_op opD_div (jv d.toJC 3 (mm 3) rfl) (je_ix (jv d.toJC 1 (mm 1) rfl) (je_int)))) (ja_cons (je_op opD_mul (je_ix (jv d.toJC 2 (mm 2) rfl) (je_int)) (je_op opD_div (jv d.toJC 3 (mm 3) rfl) (je_ix (jv d.toJC 2 (mm 2) rfl) (je_int)))) (ja_cons (jv d.toJC 3 (mm 3) rfl) (ja_nil))))))))
theorem Tj_whole_place (T : Tp fa fn bx K mg) : JF P w K mg base "whole_place" 1 [] (fun ds _ => ds) 3 m_whole_place := by
  obtain ⟨fd, F⟩ := T.sy.def_ 10 (d := d_whole_place) rfl
  exact jf_mkN F fs_whole_place sc_whole_place (T.glo 17) ⟨rfl, by decide, by decide⟩ (fun _ _ _ _ _ _ us hl => match us, hl with | [_], _ => rfl) (fun X W d => body_whole_place T d)
theorem body_dot_of (T : Tp fa fn bx K mg) {X : Cx} {W : WX} (d : JD P w K mg base nm_dot_of (defScope (top 22)) vw_dot_of 0 X W) : JB X W (defBody (top 22)) t_dot_of :=
  jb_one (js_ret (je_op opD_add (je_op opD_mul (je_ix (jv d.toJC 0 (mm 0) rfl) (je_int)) (je_ix (jv d.toJC 1 (mm 1) rfl) (je_int))) (je_op opD_mul (je_ix (jv d.toJC 0 (mm 0) rfl) (je_int)) (je_ix (jv d.toJC 1 (mm 1) rfl) (je_int)))))
theorem Tj_dot_of (T : Tp fa fn bx K mg) : JF P w K mg base "dot_of" 2 [] (fun ds _ => ds) 1 m_dot_of := by
  obtain ⟨fd, F⟩ := T.sy.def_ 11 (d := d_dot_of) rfl
  exact jf_mkN F fs_dot_of sc_dot_of (T.glo 35) ⟨rfl, by decide, by decide⟩ (fun _ _ _ _ _ _ us hl => match us, hl with | [_, _], _ => rfl) (fun X W d => body_dot_of T d)
theorem body_cross_of (T : Tp fa fn bx K mg) {X : Cx} {W : WX} (d : JD P w K mg base nm_cross_of (defScope (top 21)) vw_cross_of 0 X W) : JB X W (defBody (top 21)) t_cross_of :=
  jb_one (js_ret (je_op opD_sub (je_op opD_mul (je_ix (jv d.toJC 0 (mm 0) rfl) (je_int)) (je_ix (jv d.toJC 1 (mm 1) rfl) (je_int))) (je_op opD_mul (je_ix (jv d.toJC 0 (mm 0) rfl) (je_int)) (je_ix (jv d.toJC 1 (mm 1) rfl) (je_int)))))
theorem Tj_cross_of (T : Tp fa fn bx K mg) : JF P w K mg base "cross_of" 2 [] (fun ds _ => ds) 1 m_cross_of := by
  obtain ⟨fd, F⟩ := T.sy.def_ 12 (d := d_cross_of) rfl
  exact jf_mkN F fs_cross_of sc_cross_of (T.glo 37) ⟨rfl, by decide, by decide⟩ (fun _ _ _ _ _ _ us hl => match us, hl with | [_, _], _ => rfl) (fun X W d => body_cross_of T d)
theorem body_is_out (T : Tp fa fn bx K mg) {X : Cx} {W : WX} (d : JD P w K mg base nm_is_out (defScope (top 28)) vw_is_out 1 X W) : JB X W (defBody (top 28)) t_is_out :=
  jb_cons (js_asg (je_sl (jv d.toJC 0 (mm 0) rfl) (jo_some (je_int)) (jo_none)) (jg_tup d.toJC.calm (jgs_cons (jg_name d.toJC 2 rfl (.inl (d.toJC.sC.loc 2 (mm 2) _ rfl))) (jgs_cons (jg_name d.toJC 3 rfl (.inl (d.toJC.sC.loc 3 (mm 3) _ rfl))) (jgs_nil))))) (jb_cons (js_if (jt_cmp (opD_eq d.toJC.room) (jv d.toJC 2 (mm 2) rfl) (jv d.toJC 3 (mm 3) rfl) rfl) (jb_one (js_ret (je_bl))) (jb_nil)) (jb_one (js_ret (je_and (je_cmp opD_ge (je_call d.toJC (Tj_cross_of T) (by decide) (mm 0) (ja_cons (jv d.toJC 2 (mm 2) rfl) (ja_cons (jv d.toJC 1 (mm 1) rfl) (ja_nil)))) (je_int) rfl) (je_one (je_cmp opD_ge (je_call d.toJC (Tj_cross_of T) (by decide) (mm 0) (ja_cons (jv d.toJC 1 (mm 1) rfl) (ja_cons (jv d.toJC 3 (mm 3) rfl) (ja_nil)))) (je_int) rfl))))))
theorem Tj_is_out (T : Tp fa fn bx K mg) : JF P w K mg base "is_out" 2 [] (fun ds _ => ds) 2 m_is_out := by
  obtain ⟨fd, F⟩ := T.sy.def_ 13 (d := d_is_out) rfl
  exact jf_mkN F fs_is_out sc_is_out (T.glo 36) ⟨rfl, by decide, by decide⟩ (fun _ _ _ _ _ _ us hl => match us, hl with | [_, _], _ => rfl) (fun X W d => body_is_out T d)
theorem body_steps_from (T : Tp fa fn bx K mg) {X : Cx} {W : WX} (d : JD P w K mg base nm_steps_from (defScope (top 31)) vw_steps_from 0 X W) : JB X W (defBody (top 31)) t_steps_from :=
  jb_one (js_ret (je_tup (ja_cons (je_op opD_sub (je_ix (jv d.toJC 1 (mm 1) rfl) (je_int)) (je_op opD_mul (je_ix (jv d.toJC 0 (mm 0) rfl) (je_int)) (je_ix (jv d.toJC 1 (mm 1) rfl) (je_int)))) (ja_cons (je_op opD_sub (je_ix (jv d.toJC 1 (mm 1) rfl) (je_int)) (je_op opD_mul (je_ix (jv d.toJC 0 (mm 0) rfl) (je_int)) (je_ix (jv d.toJC 1 (mm 1) rfl) (je_int)))) (ja_nil)))))
theorem Tj_steps_from (T : Tp fa fn bx K mg) : JF P w K mg base "steps_from" 2 [] (fun ds _ => ds) 1 m_steps_from := by
  obtain ⟨fd, F⟩ := T.sy.def_ 14 (d := d_steps_from) rfl
  exact jf_mkN F fs_steps_from sc_steps_from (T.glo 34) ⟨rfl, by decide, by decide⟩ (fun _ _ _ _ _ _ us hl => match us, hl with | [_, _], _ => rfl) (fun X W d => body_steps_from T d)
theorem body_side_height (T : Tp fa fn bx K mg) {X : Cx} {W : WX} (d : JD P w K mg base nm_side_height (defScope (top 32)) vw_side_height 3 X W) : JB X W (defBody (top 32)) t_side_height :=
  jb_one (js_ret (je_call d.toJC (Tj_dot_of T) (by decide) (mm 0) (ja_cons (je_call d.toJC (Tj_steps_from T) (by decide) (mm 1) (ja_cons (je_ix (jv d.toJC 0 (mm 0) rfl) (je_int)) (ja_cons (jv d.toJC 1 (mm 1) rfl) (ja_nil)))) (ja_cons (je_call d.toJC (Tj_outward T) (by decide) (mm 2) (ja_cons (je_ix (jv d.toJC 0 (mm 0) rfl) (je_int)) (ja_cons (je_ix (jv d.toJC 0 (mm 0) rfl) (je_int)) (ja_nil)))) (ja_nil)))))
theorem Tj_side_height (T : Tp fa fn bx K mg) : JF P w K mg base "side_height" 2 [] (fun ds _ => ds) 4 m_side_height := by
  obtain ⟨fd, F⟩ := T.sy.def_ 15 (d := d_side_height) rfl
  exact jf_mkN F fs_side_height sc_side_height (T.glo 32) ⟨rfl, by decide, by decide⟩ (fun _ _ _ _ _ _ us hl => match us, hl with | [_, _], _ => rfl) (fun X W d => body_side_height T d)
theorem body_is_beside (T : Tp fa fn bx K mg) {X : Cx} {W : WX} (d : JD P w K mg base nm_is_beside (defScope (top 33)) vw_is_beside 1 X W) : JB X W (defBody (top 33)) t_is_beside :=
  jb_cons (js_set d.toJC 2 rfl (.inl (d.toJC.sC.loc 2 (mm 2) _ rfl)) (je_call d.toJC (Tj_step_from T) (by decide) (mm 0) (ja_cons (je_ix (jv d.toJC 0 (mm 0) rfl) (je_int)) (ja_cons (je_ix (jv d.toJC 0 (mm 0) rfl) (je_int)) (ja_nil))))) (jb_one (js_ret (je_chain opD_le opD_le (je_int) (je_call d.toJC (Tj_dot_of T) (by decide) (mm 1) (ja_cons (je_call d.toJC (Tj_steps_from T) (by decide) (mm 2) (ja_cons (je_ix (jv d.toJC 0 (mm 0) rfl) (je_int)) (ja_cons (jv d.toJC 1 (mm 1) rfl) (ja_nil)))) (ja_cons (jv d.toJC 2 (mm 2) rfl) (ja_nil)))) (je_op opD_mul (je_call d.toJC (Tj_dot_of T) (by decide) (mm 1) (ja_cons (jv d.toJC 2 (mm 2) rfl) (ja_cons (jv d.toJC 2 (mm 2) rfl) (ja_nil)))) (je_ix (jv d.toJC 1 (mm 1) rfl) (je_int))))))
theorem Tj_is_beside (T : Tp fa fn bx K mg) : JF P w K mg base "is_beside" 2 [] (fun ds _ => ds) 2 m_is_beside := by
  obtain ⟨fd, F⟩ := T.sy.def_ 16 (d := d_is_beside) rfl
  exact jf_mkN F fs_is_beside sc_is_beside (T.glo 33) ⟨rfl, by decide, by decide⟩ (fun _ _ _ _ _ _ us hl => match us, hl with | [_, _], _ => rfl) (fun X W d => body_is_beside T d)
theorem body_is_spoked (T : Tp fa fn bx K mg) {X : Cx} {W : WX} (d : JD P w K mg base nm_is_spoked (defScope (top 34)) vw_is_spoked 4 X W) : JB X W (defBody (top 34)) t_is_spoked :=
  jb_cons (js_if (jt_cmp (opD_eq d.toJC.room) (je_ix (jv d.toJC 0 (mm 0) rfl) (je_int)) (je_str) rfl) (jb_one (js_ret (je_and (je_cmp opD_gt (je_call d.toJC (Tj_side_height T) (by decide) (mm 0) (ja_cons (jv d.toJC 0 (mm 0) rfl) (ja_cons (jv d.toJC 1 (mm 1) rfl) (ja_nil)))) (je_int) rfl) (je_one (je_call d.toJC (Tj_is_beside T) (by decide) (mm 1) (ja_cons (jv d.toJC 0 (mm 0) rfl) (ja_cons (jv d.toJC 1 (mm 1) rfl) (ja_nil)))))))) (jb_nil)) (jb_cons (js_asg (jv d.toJC 0 (mm 0) rfl) (jg_tup d.toJC.calm (jgs_cons (jg_name d.toJC 2 rfl (.inl (d.toJC.sC.loc 2 (mm 2) _ rfl))) (jgs_cons (jg_name d.toJC 3 rfl (.inl (d.toJC.sC.loc 3 (mm 3) _ rfl))) (jgs_cons (jg_name d.toJC 4 rfl (.inl (d.toJC.sC.loc 4 (mm 4) _ rfl))) (jgs_cons (jg_name d.toJC 5 rfl (.inl (d.toJC.sC.loc 5 (mm 5) _ rfl))) (jgs_cons (jg_name d.toJC 6 rfl (.inl (d.toJC.sC.loc 6 (mm 6) _ rfl))) (jgs_nil)))))))) (jb_cons (js_set d.toJC 7 rfl (.inl (d.toJC.sC.loc 7 (mm 7) _ rfl)) (je_call d.toJC (Tj_steps_from T) (by decide) (mm 2) (ja_cons (jv d.toJC 3 (mm 3) rfl) (ja_cons (jv d.toJC 1 (mm 1) rfl) (ja_nil))))) (jb_cons (js_if (jt_cmp opD_le (je_call d.toJC (Tj_dot_of T) (by decide) (mm 3) (ja_cons (jv d.toJC 7 (mm 7) rfl) (ja_cons (jv d.toJC 7 (mm 7) rfl) (ja_nil)))) (je_op opD_pow (je_op opD_mul (jv d.toJC 4 (mm 4) rfl) (je_ix (jv d.toJC 1 (mm 1) rfl) (je_int))) (je_int)) rfl) (jb_one (js_ret (je_bl))) (jb_nil)) (jb_one (js_ret (je_call d.toJC (Tj_is_out T) (by decide) (mm 4) (ja_cons (jv d.toJC 0 (mm 0) rfl) (ja_cons (jv d.toJC 7 (mm 7) rfl) (ja_nil)))))))))
theorem Tj_is_spoked (T : Tp fa fn bx K mg) : JF P w K mg base "is_spoked" 2 [] (fun ds _ => ds) 5 m_is_spoked := by
  obtain ⟨fd, F⟩ := T.sy.def_ 17 (d := d_is_spoked) rfl
  exact jf_mkN F fs_is_spoked sc_is_spoked (T.glo 31) ⟨rfl, by decide, by decide⟩ (fun _ _ _ _ _ _ us hl => match us, hl with | [_, _], _ => rfl) (fun X W d => body_is_spoked T d)
theorem body_faces_at (T : Tp fa fn bx K mg) {X : Cx} {W : WX} (d : JD P w K mg base nm_faces_at (defScope (top 35)) vw_faces_at 5 X W) : JB X W (defBody (top 35)) t_faces_at :=
  jb_cons (js_set d.toJC 2 rfl (.inr ⟨d.toJC.sC.cel 2 (mm 0) _ rfl, d.fn⟩) (je_call d.toJC (Tj_whole_place T) (by decide) (mm 0) (ja_cons (jv d.toJC 1 (mm 1) rfl) (ja_nil)))) (jb_one (js_ret (je_callTy d.toJC cd_tup (mm 1) (T.free 28) (by decide +kernel) (ja_cons (je_lc d.toJC (own := [(".0", 3), ("number", 4), ("face", 5)]) (vw2 := vb0_faces_at) (by decide +kernel) (scOf (by decide +kernel)) (by decide) (ji_enum d.toJC (mm 2) (T.free 30) (je_call d.toJC (Tj_faces T) (by decide) (mm 3) (ja_cons (jv d.toJC 0 (mm 0) rfl) (ja_nil)))) (fun _ c0 => jg_tup c0.calm (jgs_cons (jg_name c0 4 rfl (.inl (c0.sC.loc 4 (mm 1) _ rfl))) (jgs_cons (jg_name c0 5 rfl (.inl (c0.sC.loc 5 (mm 2) _ rfl))) (jgs_nil)))) (fun _ c0 => jts_one (jt_tru (je_call c0 (Tj_is_spoked T) (by decide) (mm 0) (ja_cons (jv c0 5 (mm 3) rfl) (ja_cons (jv c0 2 (mm 0) rfl) (ja_nil)))))) (fun _ c0 => jv c0 4 (mm 2) rfl) (by walk_at "mo" <;> first | with_reducible exact (Tj_is_spoked (P := P) (w := w) (base := base) T).mo) (by walk_at "mo" <;> first | with_reducible exact (Tj_is_spoked (P := P) (w := w) (base := base) T).mo)) (ja_nil)))))
theorem Tj_faces_at (T : Tp fa fn bx K mg) : JF P w K mg base "faces_at" 2 [] (fun ds _ => ds) 6 m_faces_at := by
  obtain ⟨fd, F⟩ := T.sy.def_ 18 (d := d_faces_at) rfl
  exact jf_mkN F fs_faces_at sc_faces_at (T.glo 13) ⟨rfl, by decide, by decide⟩ (fun _ _ _ _ _ _ us hl => match us, hl with | [_, _], _ => rfl) (fun X W d => body_faces_at T d)
theorem body_frac (T : Tp fa fn bx K mg) {X : Cx} {W : WX} (d : JD P w K mg base nm_frac (defScope (top 7)) vw_frac 1 X W) : JB X W (defBody (top 7)) t_frac :=
  jb_cons (js_thru d (fun _ _ d => jb_one (js_set d.toJC 2 rfl (.inl (d.toJC.sC.loc 2 (mm 2) _ rfl)) (je_op opD_div (jv d.toJC 1 (mm 1) rfl) (je_callB d.toJC cd_abs (mm 0) (T.free 25) (by decide +kernel) (ja_cons (jv d.toJC 1 (mm 1) rfl) (ja_nil))))))) (jb_cons (js_set d.toJC 4 rfl (.inl (d.toJC.sC.loc 4 (mm 4) _ rfl)) (je_op opD_mul (je_call d.toJC (Tj_common T) (by decide) (mm 3) (ja_cons (jv d.toJC 0 (mm 0) rfl) (ja_cons (jv d.toJC 1 (mm 1) rfl) (ja_nil)))) (jv d.toJC 2 (mm 2) rfl))) (jb_one (js_ret (je_tup (ja_cons (je_op opD_div (jv d.toJC 0 (mm 0) rfl) (jv d.toJC 4 (mm 4) rfl)) (ja_cons (je_op opD_div (jv d.toJC 1 (mm 1) rfl) (jv d.toJC 4 (mm 4) rfl)) (ja_nil)))))))
theorem Tj_frac (T : Tp fa fn bx K mg) : JF P w K mg base "frac" 2 [] (fun ds _ => ds ++ []) 2 m_frac := by
  obtain ⟨fd, F⟩ := T.sy.def_ 19 (d := d_frac) rfl
  exact jf_mkF 2 1 [] F fs_frac sc_frac (T.glo 39) ⟨rfl, by decide, by decide⟩ (List.cons_ne_nil _ _) rfl (fun _ _ _ => .nil) (fun _ _ _ _ _ _ _ us its hl h2 => match us, its, hl, h2 with | [_, _], [_], _, _ => ⟨_, rfl, rfl⟩) (fun X W d => body_frac T d)
theorem body_plus (T : Tp fa fn bx K mg) {X : Cx} {W : WX} (d : JD P w K mg base nm_plus (defScope (top 8)) vw_plus 2 X W) : JB X W (defBody (top 8)) t_plus :=
  jb_one (js_ret (je_call d.toJC (Tj_frac T) (by decide) (mm 0) (ja_cons (je_op opD_add (je_op opD_mul (je_ix (jv d.toJC 0 (mm 0) rfl) (je_int)) (je_ix (jv d.toJC 1 (mm 1) rfl) (je_int))) (je_op opD_mul (je_ix (jv d.toJC 1 (mm 1) rfl) (je_int)) (je_ix (jv d.toJC 0 (mm 0) rfl) (je_int)))) (ja_cons (je_op opD_mul (je_ix (jv d.toJC 0 (mm 0) rfl) (je_int)) (je_ix (jv d.toJC 1 (mm 1) rfl) (je_int))) (ja_nil)))))
theorem Tj_plus (T : Tp fa fn bx K mg) : JF P w K mg base "plus" 2 [] (fun ds _ => ds) 3 m_plus := by
  obtain ⟨fd, F⟩ := T.sy.def_ 20 (d := d_plus) rfl
  exact jf_mkN F fs_plus sc_plus (T.glo 44) ⟨rfl, by decide, by decide⟩ (fun _ _ _ _ _ _ us hl => match us, hl with | [_, _], _ => rfl) (fun X W d => body_plus T d)
theorem body_is_square (T : Tp fa fn bx K mg) {X : Cx} {W : WX} (d : JD P w K mg base nm_is_square (defScope (top 12)) vw_is_square 1 X W) : JB X W (defBody (top 12)) t_is_square :=
  jb_one (js_ret (je_cmp (opD_eq d.toJC.room) (je_op opD_pow (je_call d.toJC (Tj_whole_root T) (by decide) (mm 0) (ja_cons (jv d.toJC 0 (mm 0) rfl) (ja_nil))) (je_int)) (jv d.toJC 0 (mm 0) rfl) rfl))
theorem Tj_is_square (T : Tp fa fn bx K mg) : JF P w K mg base "is_square" 1 [] (fun ds _ => ds) 2 m_is_square := by
  obtain ⟨fd, F⟩ := T.sy.def_ 21 (d := d_is_square) rfl
  exact jf_mkN F fs_is_square sc_is_square (T.glo 43) ⟨rfl, by decide, by decide⟩ (fun _ _ _ _ _ _ us hl => match us, hl with | [_], _ => rfl) (fun X W d => body_is_square T d)
theorem body_root (T : Tp fa fn bx K mg) {X : Cx} {W : WX} (d : JD P w K mg base nm_root (defScope (top 15)) vw_root 3 X W) : JB X W (defBody (top 15)) t_root :=
  jb_cons (js_if (jt_cmp opD_lt (je_ix (jv d.toJC 2 (mm 2) rfl) (je_int)) (je_int) rfl) (jb_one (js_raiseV d.toJC (mm 0) (T.sy.fact 41 rfl) (T.sy.fact 42 rfl) (T.glo 41))) (jb_nil)) (jb_cons (js_if (jt_w (jw_or (jt_cmp (opD_eq d.toJC.room) (jv d.toJC 1 (mm 1) rfl) (je_int) rfl) (jw_or1 (jt_cmp (opD_eq d.toJC.room) (je_ix (jv d.toJC 2 (mm 2) rfl) (je_int)) (je_int) rfl)))) (jb_one (js_ret (je_tup (ja_cons (jv d.toJC 0 (mm 0) rfl) (ja_cons (je_int) (ja_cons (je_glob d.toJC (mm 1) (Tk_ZERO T)) (ja_nil))))))) (jb_nil)) (jb_cons (js_if (jt_w (jw_and (jt_tru (je_call d.toJC (Tj_is_square T) (by decide) (mm 2) (ja_cons (je_ix (jv d.toJC 2 (mm 2) rfl) (je_int)) (ja_nil)))) (jw_and1 (jt_tru (je_call d.toJC (Tj_is_square T) (by decide) (mm 2) (ja_cons (je_ix (jv d.toJC 2 (mm 2) rfl) (je_int)) (ja_nil))))))) (jb_one (js_ret (je_tup (ja_cons (je_call d.toJC (Tj_plus T) (by decide) (mm 3) (ja_cons (jv d.toJC 0 (mm 0) rfl) (ja_cons (je_tup (ja_cons (je_op opD_mul (jv d.toJC 1 (mm 1) rfl) (je_call d.toJC (Tj_whole_root T) (by decide) (mm 4) (ja_cons (je_ix (jv d.toJC 2 (mm 2) rfl) (je_int)) (ja_nil)))) (ja_cons (je_call d.toJC (Tj_whole_root T) (by decide) (mm 4) (ja_cons (je_ix (jv d.toJC 2 (mm 2) rfl) (je_int)) (ja_nil))) (ja_nil)))) (ja_nil)))) (ja_cons (je_int) (ja_cons (je_glob d.toJC (mm 1) (Tk_ZERO T)) (ja_nil))))))) (jb_nil)) (jb_one (js_ret (je_tup (ja_cons (jv d.toJC 0 (mm 0) rfl) (ja_cons (jv d.toJC 1 (mm 1) rfl) (ja_cons (jv d.toJC 2 (mm 2) rfl) (ja_nil)))))))))
theorem Tj_root_sign_square (T : Tp fa fn bx K mg) : JF P w K mg base "root" 1 ["sign", "square"] (fun a b => g_root_sign_square a b) 4 m_root := by
  obtain ⟨fd, F⟩ := T.sy.def_ 22 (d := d_root) rfl
  exact jf_mkW 1 ["sign", "square"] F fs_root sc_root (T.glo 40) ⟨rfl, by decide, by decide⟩ g_root_sign_square (fun {us ws} l1 l2 => match us, ws, l1, l2 with | [_], [_, _], _, _ => rfl) (fun {Z S H ds zs vs ws} r r2 l1 l2 => match ds, zs, vs, ws, r, r2, l1, l2 with | [_], [_, _], _, _, .cons a0 .nil, .cons b_sign (.cons b_square .nil), _, _ => .cons a0 (.cons b_sign (.cons b_square .nil))) (fun {vs zs us ws} r r2 l1 l2 => match vs, zs, us, ws, r, r2, l1, l2 with | [_], [_, _], _, _, .cons a0 .nil, .cons b_sign (.cons b_square .nil), _, _ => .cons a0 (.cons b_sign (.cons b_square .nil))) (fun _ _ _ _ _ _ us ws l1 l2 => match us, ws, l1, l2 with | [_], [_, _], _, _ => rfl) (fun X W d => body_root T d)
theorem body_length_of (T : Tp fa fn bx K mg) {X : Cx} {W : WX} (d : JD P w K mg base nm_length_of (defScope (top 27)) vw_length_of 1 X W) : JB X W (defBody (top 27)) t_length_of :=
  jb_one (js_ret (je_call d.toJC (Tj_whole_root T) (by decide) (mm 0) (ja_cons (je_call d.toJC (Tj_dot_of T) (by decide) (mm 1) (ja_cons (jv d.toJC 0 (mm 0) rfl) (ja_cons (jv d.toJC 0 (mm 0) rfl) (ja_nil)))) (ja_nil))))
theorem Tj_length_of (T : Tp fa fn bx K mg) : JF P w K mg base "length_of" 1 [] (fun ds _ => ds) 2 m_length_of := by
  obtain ⟨fd, F⟩ := T.sy.def_ 23 (d := d_length_of) rfl
  exact jf_mkN F fs_length_of sc_length_of (T.glo 38) ⟨rfl, by decide, by decide⟩ (fun _ _ _ _ _ _ us hl => match us, hl with | [_], _ => rfl) (fun X W d => body_length_of T d)
theorem body_face_distance (T : Tp fa fn bx K mg) {X : Cx} {W : WX} (d : JD P w K mg base nm_face_distance (defScope (top 36)) vw_face_distance 4 X W) : JB X W (defBody (top 36)) t_face_distance :=
  jb_cons (js_if (jt_cmp (opD_eq d.toJC.room) (je_ix (jv d.toJC 0 (mm 0) rfl) (je_int)) (je_str) rfl) (jb_one (js_ret (je_call d.toJC (Tj_from_frac T) (by decide) (mm 0) (ja_cons (je_call d.toJC (Tj_frac T) (by decide) (mm 1) (ja_cons (je_call d.toJC (Tj_side_height T) (by decide) (mm 2) (ja_cons (jv d.toJC 0 (mm 0) rfl) (ja_cons (jv d.toJC 1 (mm 1) rfl) (ja_nil)))) (ja_cons (je_op opD_mul (je_call d.toJC (Tj_length_of T) (by decide) (mm 3) (ja_cons (je_call d.toJC (Tj_outward T) (by decide) (mm 4) (ja_cons (je_ix (jv d.toJC 0 (mm 0) rfl) (je_int)) (ja_cons (je_ix (jv d.toJC 0 (mm 0) rfl) (je_int)) (ja_nil)))) (ja_nil))) (je_ix (jv d.toJC 1 (mm 1) rfl) (je_int))) (ja_nil)))) (ja_nil))))) (jb_nil)) (jb_cons (js_set d.toJC 2 rfl (.inl (d.toJC.sC.loc 2 (mm 2) _ rfl)) (je_call d.toJC (Tj_steps_from T) (by decide) (mm 5) (ja_cons (je_ix (jv d.toJC 0 (mm 0) rfl) (je_int)) (ja_cons (jv d.toJC 1 (mm 1) rfl) (ja_nil))))) (jb_one (js_ret (je_callK d.toJC (Tj_root_sign_square T) (by decide) (mm 6) (ja_cons (je_tup (ja_cons (je_op opD_sub (je_int) (je_ix (jv d.toJC 0 (mm 0) rfl) (je_int))) (ja_cons (je_int) (ja_nil)))) (ja_nil)) (jk_cons (je_int) (jk_cons (je_call d.toJC (Tj_frac T) (by decide) (mm 1) (ja_cons (je_call d.toJC (Tj_dot_of T) (by decide) (mm 7) (ja_cons (jv d.toJC 2 (mm 2) rfl) (ja_cons (jv d.toJC 2 (mm 2) rfl) (ja_nil)))) (ja_cons (je_op opD_mul (je_ix (jv d.toJC 1 (mm 1) rfl) (je_int)) (je_ix (jv d.toJC 1 (mm 1) rfl) (je_int))) (ja_nil)))) (jk_nil)))))))
theorem Tj_face_distance (T : Tp fa fn bx K mg) : JF P w K mg base "face_distance" 2 [] (fun ds _ => ds) 5 m_face_distance := by
  obtain ⟨fd, F⟩ := T.sy.def_ 24 (d := d_face_distance) rfl
  exact jf_mkN F fs_face_distance sc_face_distance (T.glo 18) ⟨rfl, by decide, by decide⟩ (fun _ _ _ _ _ _ us hl => match us, hl with | [_, _], _ => rfl) (fun X W d => body_face_distance T d)
theorem body_distance (T : Tp fa fn bx K mg) {X : Cx} {W : WX} (d : JD P w K mg base nm_distance (defScope (top 37)) vw_distance 6 X W) : JB X W (defBody (top 37)) t_distance :=
  jb_cons (js_set d.toJC 2 rfl (.inl (d.toJC.sC.loc 2 (mm 2) _ rfl)) (je_call d.toJC (Tj_faces_at T) (by decide) (mm 0) (ja_cons (jv d.toJC 0 (mm 0) rfl) (ja_cons (jv d.toJC 1 (mm 1) rfl) (ja_nil))))) (jb_cons (js_if (jt_cmp (opD_eq d.toJC.room) (jv d.toJC 2 (mm 2) rfl) (je_tup (ja_nil)) rfl) (jb_one (js_ret (je_call d.toJC (Tj_from_frac T) (by decide) (mm 1) (ja_cons (je_glob d.toJC (mm 2) (Tk_ZERO T)) (ja_nil))))) (jb_nil)) (jb_one (js_ret (je_call d.toJC (Tj_face_distance T) (by decide) (mm 3) (ja_cons (je_ix (je_call d.toJC (Tj_faces T) (by decide) (mm 4) (ja_cons (jv d.toJC 0 (mm 0) rfl) (ja_nil))) (je_ix (jv d.toJC 2 (mm 2) rfl) (je_int))) (ja_cons (je_call d.toJC (Tj_whole_place T) (by decide) (mm 5) (ja_cons (jv d.toJC 1 (mm 1) rfl) (ja_nil))) (ja_nil)))))))
theorem Tj_distance (T : Tp fa fn bx K mg) : JF P w K mg base "distance" 2 [] (fun ds _ => ds) 7 m_distance := by
  obtain ⟨fd, F⟩ := T.sy.def_ 25 (d := d_distance) rfl
  exact jf_mkN F fs_distance sc_distance (T.glo 12) ⟨rfl, by decide, by decide⟩ (fun _ _ _ _ _ _ us hl => match us, hl with | [_, _], _ => rfl) (fun X W d => body_distance T d)
theorem body_sign_of (T : Tp fa fn bx K mg) {X : Cx} {W : WX} (d : JD P w K mg base nm_sign_of (defScope (top 9)) vw_sign_of 0 X W) : JB X W (defBody (top 9)) t_sign_of :=
  jb_one (js_ret (je_op opD_sub (je_callTy d.toJC cd_int (mm 0) (T.free 49) (by decide +kernel) (ja_cons (je_cmp opD_gt (jv d.toJC 0 (mm 0) rfl) (je_int) rfl) (ja_nil))) (je_callTy d.toJC cd_int (mm 0) (T.free 49) (by decide +kernel) (ja_cons (je_cmp opD_lt (jv d.toJC 0 (mm 0) rfl) (je_int) rfl) (ja_nil)))))
theorem Tj_sign_of (T : Tp fa fn bx K mg) : JF P w K mg base "sign_of" 1 [] (fun ds _ => ds) 1 m_sign_of := by
  obtain ⟨fd, F⟩ := T.sy.def_ 26 (d := d_sign_of) rfl
  exact jf_mkN F fs_sign_of sc_sign_of (T.glo 48) ⟨rfl, by decide, by decide⟩ (fun _ _ _ _ _ _ us hl => match us, hl with | [_], _ => rfl) (fun X W d => body_sign_of T d)
theorem body_field_sign (T : Tp fa fn bx K mg) {X : Cx} {W : WX} (d : JD P w K mg base nm_field_sign (defScope (top 16)) vw_field_sign 1 X W) : JB X W (defBody (top 16)) t_field_sign :=
  jb_cons (js_if (jt_w (jw_or (jt_cmp opD_ge (je_op opD_mul (je_call d.toJC (Tj_sign_of T) (by decide) (mm 0) (ja_cons (jv d.toJC 0 (mm 0) rfl) (ja_nil))) (je_call d.toJC (Tj_sign_of T) (by decide) (mm 0) (ja_cons (jv d.toJC 1 (mm 1) rfl) (ja_nil)))) (je_int) rfl) (jw_or1 (jt_cmp (opD_eq d.toJC.room) (jv d.toJC 2 (mm 2) rfl) (je_int) rfl)))) (jb_one (js_ret (je_ifExp (jt_cmp (opD_eq d.toJC.room) (jv d.toJC 2 (mm 2) rfl) (je_int) rfl) (je_call d.toJC (Tj_sign_of T) (by decide) (mm 0) (ja_cons (jv d.toJC 0 (mm 0) rfl) (ja_nil))) (je_call d.toJC (Tj_sign_of T) (by decide) (mm 0) (ja_cons (je_op opD_add (je_call d.toJC (Tj_sign_of T) (by decide) (mm 0) (ja_cons (jv d.toJC 0 (mm 0) rfl) (ja_nil))) (je_call d.toJC (Tj_sign_of T) (by decide) (mm 0) (ja_cons (jv d.toJC 1 (mm 1) rfl) (ja_nil)))) (ja_nil)))))) (jb_nil)) (jb_one (js_ret (je_op opD_mul (je_call d.toJC (Tj_sign_of T) (by decide) (mm 0) (ja_cons (jv d.toJC 0 (mm 0) rfl) (ja_nil))) (je_call d.toJC (Tj_sign_of T) (by decide) (mm 0) (ja_cons (je_op opD_sub (je_op opD_mul (jv d.toJC 0 (mm 0) rfl) (jv d.toJC 0 (mm 0) rfl)) (je_op opD_mul (je_op opD_mul (jv d.toJC 1 (mm 1) rfl) (jv d.toJC 1 (mm 1) rfl)) (jv d.toJC 2 (mm 2) rfl))) (ja_nil))))))
theorem Tj_field_sign (T : Tp fa fn bx K mg) : JF P w K mg base "field_sign" 3 [] (fun ds _ => ds) 2 m_field_sign := by
  obtain ⟨fd, F⟩ := T.sy.def_ 27 (d := d_field_sign) rfl
  exact jf_mkN F fs_field_sign sc_field_sign (T.glo 47) ⟨rfl, by decide, by decide⟩ (fun _ _ _ _ _ _ us hl => match us, hl with | [_, _, _], _ => rfl) (fun X W d => body_field_sign T d)
theorem body_root_sign (T : Tp fa fn bx K mg) {X : Cx} {W : WX} (d : JD P w K mg base nm_root_sign (defScope (top 17)) vw_root_sign 2 X W) : JB X W (defBody (top 17)) t_root_sign :=
  jb_cons (js_asg (jv d.toJC 0 (mm 0) rfl) (jg_tup d.toJC.calm (jgs_cons (jg_name d.toJC 1 rfl (.inl (d.toJC.sC.loc 1 (mm 1) _ rfl))) (jgs_cons (jg_name d.toJC 2 rfl (.inl (d.toJC.sC.loc 2 (mm 2) _ rfl))) (jgs_cons (jg_name d.toJC 3 rfl (.inl (d.toJC.sC.loc 3 (mm 3) _ rfl))) (jgs_nil)))))) (jb_cons (js_set d.toJC 4 rfl (.inl (d.toJC.sC.loc 4 (mm 4) _ rfl)) (je_op opD_mul (je_ix (jv d.toJC 1 (mm 1) rfl) (je_int)) (je_ix (jv d.toJC 3 (mm 3) rfl) (je_int)))) (jb_one (js_ret (je_call d.toJC (Tj_field_sign T) (by decide) (mm 0) (ja_cons (je_op opD_mul (je_op opD_mul (je_ix (jv d.toJC 1 (mm 1) rfl) (je_int)) (je_ix (jv d.toJC 3 (mm 3) rfl) (je_int))) (je_ix (jv d.toJC 3 (mm 3) rfl) (je_int))) (ja_cons (je_op opD_mul (jv d.toJC 2 (mm 2) rfl) (jv d.toJC 4 (mm 4) rfl)) (ja_cons (je_op opD_mul (je_ix (jv d.toJC 3 (mm 3) rfl) (je_int)) (je_ix (jv d.toJC 3 (mm 3) rfl) (je_int))) (ja_nil))))))))
theorem Tj_root_sign (T : Tp fa fn bx K mg) : JF P w K mg base "root_sign" 1 [] (fun ds _ => ds) 3 m_root_sign := by
  obtain ⟨fd, F⟩ := T.sy.def_ 28 (d := d_root_sign) rfl
  exact jf_mkN F fs_root_sign sc_root_sign (T.glo 46) ⟨rfl, by decide, by decide⟩ (fun _ _ _ _ _ _ us hl => match us, hl with | [_], _ => rfl) (fun X W d => body_root_sign T d)
theorem body_against (T : Tp fa fn bx K mg) {X : Cx} {W : WX} (d : JD P w K mg base nm_against (defScope (top 38)) vw_against 0 X W) : JB X W (defBody (top 38)) t_against :=
  jb_one (js_ret (je_tup (ja_cons (je_op opD_sub (je_int) (je_ix (jv d.toJC 0 (mm 0) rfl) (je_int))) (ja_cons (je_op opD_sub (je_int) (je_ix (jv d.toJC 0 (mm 0) rfl) (je_int))) (ja_nil)))))
theorem Tj_against (T : Tp fa fn bx K mg) : JF P w K mg base "against" 1 [] (fun ds _ => ds) 1 m_against := by
  obtain ⟨fd, F⟩ := T.sy.def_ 29 (d := d_against) rfl
  exact jf_mkN F fs_against sc_against (T.glo 52) ⟨rfl, by decide, by decide⟩ (fun _ _ _ _ _ _ us hl => match us, hl with | [_], _ => rfl) (fun X W d => body_against T d)
theorem body_rounds_apart (T : Tp fa fn bx K mg) {X : Cx} {W : WX} (d : JD P w K mg base nm_rounds_apart (defScope (top 39)) vw_rounds_apart 4 X W) : JB X W (defBody (top 39)) t_rounds_apart :=
  jb_cons (js_set d.toJC 2 rfl (.inl (d.toJC.sC.loc 2 (mm 2) _ rfl)) (je_call d.toJC (Tj_step_from T) (by decide) (mm 0) (ja_cons (je_ix (jv d.toJC 1 (mm 1) rfl) (je_int)) (ja_cons (je_ix (jv d.toJC 0 (mm 0) rfl) (je_int)) (ja_nil))))) (jb_cons (js_if (jt_w (jw_or (jt_cmp (opD_eq d.toJC.room) (jv d.toJC 2 (mm 2) rfl) (je_tup (ja_cons (je_int) (ja_cons (je_int) (ja_nil)))) rfl) (jw_or (jt_not (jt_tru (je_call d.toJC (Tj_is_out T) (by decide) (mm 1) (ja_cons (jv d.toJC 0 (mm 0) rfl) (ja_cons (jv d.toJC 2 (mm 2) rfl) (ja_nil)))))) (jw_or1 (jt_not (jt_tru (je_call d.toJC (Tj_is_out T) (by decide) (mm 1) (ja_cons (jv d.toJC 1 (mm 1) rfl) (ja_cons (je_call d.toJC (Tj_against T) (by decide) (mm 2) (ja_cons (jv d.toJC 2 (mm 2) rfl) (ja_nil))) (ja_nil)))))))))) (jb_one (js_ret (je_non))) (jb_nil)) (jb_one (js_ret (je_callK d.toJC (Tj_root_sign_square T) (by decide) (mm 3) (ja_cons (je_tup (ja_cons (je_op opD_sub (je_op opD_sub (je_int) (je_ix (jv d.toJC 0 (mm 0) rfl) (je_int))) (je_ix (jv d.toJC 1 (mm 1) rfl) (je_int))) (ja_cons (je_int) (ja_nil)))) (ja_nil)) (jk_cons (je_int) (jk_cons (je_tup (ja_cons (je_call d.toJC (Tj_dot_of T) (by decide) (mm 4) (ja_cons (jv d.toJC 2 (mm 2) rfl) (ja_cons (jv d.toJC 2 (mm 2) rfl) (ja_nil)))) (ja_cons (je_int) (ja_nil)))) (jk_nil)))))))
theorem Tj_rounds_apart (T : Tp fa fn bx K mg) : JF P w K mg base "rounds_apart" 2 [] (fun ds _ => ds) 5 m_rounds_apart := by
  obtain ⟨fd, F⟩ := T.sy.def_ 30 (d := d_rounds_apart) rfl
  exact jf_mkN F fs_rounds_apart sc_rounds_apart (T.glo 51) ⟨rfl, by decide, by decide⟩ (fun _ _ _ _ _ _ us hl => match us, hl with | [_, _], _ => rfl) (fun X W d => body_rounds_apart T d)
theorem body_side_apart (T : Tp fa fn bx K mg) {X : Cx} {W : WX} (d : JD P w K mg base nm_side_apart (defScope (top 40)) vw_side_apart 4 X W) : JB X W (defBody (top 40)) t_side_apart :=
  jb_cons (js_set d.toJC 2 rfl (.inl (d.toJC.sC.loc 2 (mm 2) _ rfl)) (je_call d.toJC (Tj_outward T) (by decide) (mm 0) (ja_cons (je_ix (jv d.toJC 0 (mm 0) rfl) (je_int)) (ja_cons (je_ix (jv d.toJC 0 (mm 0) rfl) (je_int)) (ja_nil))))) (jb_cons (js_set d.toJC 3 rfl (.inl (d.toJC.sC.loc 3 (mm 3) _ rfl)) (je_tup (ja_cons (je_ix (je_ix (jv d.toJC 1 (mm 1) rfl) (je_int)) (je_int)) (ja_cons (je_ix (je_ix (jv d.toJC 1 (mm 1) rfl) (je_int)) (je_int)) (ja_cons (je_int) (ja_nil)))))) (jb_cons (js_if (jt_w (jw_or (jt_not (jt_tru (je_call d.toJC (Tj_is_beside T) (by decide) (mm 1) (ja_cons (jv d.toJC 0 (mm 0) rfl) (ja_cons (jv d.toJC 3 (mm 3) rfl) (ja_nil)))))) (jw_or1 (jt_not (jt_tru (je_call d.toJC (Tj_is_out T) (by decide) (mm 2) (ja_cons (jv d.toJC 1 (mm 1) rfl) (ja_cons (je_call d.toJC (Tj_against T) (by decide) (mm 3) (ja_cons (jv d.toJC 2 (mm 2) rfl) (ja_nil))) (ja_nil))))))))) (jb_one (js_ret (je_non))) (jb_nil)) (jb_one (js_ret (je_call d.toJC (Tj_from_frac T) (by decide) (mm 4) (ja_cons (je_call d.toJC (Tj_frac T) (by decide) (mm 5) (ja_cons (je_op opD_sub (je_call d.toJC (Tj_side_height T) (by decide) (mm 6) (ja_cons (jv d.toJC 0 (mm 0) rfl) (ja_cons (jv d.toJC 3 (mm 3) rfl) (ja_nil)))) (je_op opD_mul (je_ix (jv d.toJC 1 (mm 1) rfl) (je_int)) (je_call d.toJC (Tj_length_of T) (by decide) (mm 7) (ja_cons (jv d.toJC 2 (mm 2) rfl) (ja_nil))))) (ja_cons (je_call d.toJC (Tj_length_of T) (by decide) (mm 7) (ja_cons (jv d.toJC 2 (mm 2) rfl) (ja_nil))) (ja_nil)))) (ja_nil)))))))
theorem Tj_side_apart (T : Tp fa fn bx K mg) : JF P w K mg base "side_apart" 2 [] (fun ds _ => ds) 5 m_side_apart := by
  obtain ⟨fd, F⟩ := T.sy.def_ 31 (d := d_side_apart) rfl
  exact jf_mkN F fs_side_apart sc_side_apart (T.glo 50) ⟨rfl, by decide, by decide⟩ (fun _ _ _ _ _ _ us hl => match us, hl with | [_, _], _ => rfl) (fun X W d => body_side_apart T d)
theorem body_faces_apart (T : Tp fa fn bx K mg) {X : Cx} {W : WX} (d : JD P w K mg base nm_faces_apart (defScope (top 41)) vw_faces_apart 5 X W) : JB X W (defBody (top 41)) t_faces_apart :=
  jb_cons (js_if (jt_w (jw_and (jt_cmp (opD_eq d.toJC.room) (je_ix (jv d.toJC 0 (mm 0) rfl) (je_int)) (je_str) rfl) (jw_and1 (jt_cmp (opD_eq d.toJC.room) (je_ix (jv d.toJC 1 (mm 1) rfl) (je_int)) (je_str) rfl)))) (jb_one (js_ret (je_non))) (jb_nil)) (jb_cons (js_if (jt_cmp (opD_eq d.toJC.room) (je_ix (jv d.toJC 0 (mm 0) rfl) (je_int)) (je_str) rfl) (jb_one (js_ret (je_call d.toJC (Tj_side_apart T) (by decide) (mm 0) (ja_cons (jv d.toJC 0 (mm 0) rfl) (ja_cons (jv d.toJC 1 (mm 1) rfl) (ja_nil)))))) (jb_nil)) (jb_one (js_ret (je_ifExp (jt_cmp (opD_eq d.toJC.room) (je_ix (jv d.toJC 1 (mm 1) rfl) (je_int)) (je_str) rfl) (je_call d.toJC (Tj_side_apart T) (by decide) (mm 0) (ja_cons (jv d.toJC 1 (mm 1) rfl) (ja_cons (jv d.toJC 0 (mm 0) rfl) (ja_nil)))) (je_call d.toJC (Tj_rounds_apart T) (by decide) (mm 1) (ja_cons (jv d.toJC 0 (mm 0) rfl) (ja_cons (jv d.toJC 1 (mm 1) rfl) (ja_nil))))))))
theorem Tj_faces_apart (T : Tp fa fn bx K mg) : JF P w K mg base "faces_apart" 2 [] (fun ds _ => ds) 6 m_faces_apart := by
  obtain ⟨fd, F⟩ := T.sy.def_ 32 (d := d_faces_apart) rfl
  exact jf_mkN F fs_faces_apart sc_faces_apart (T.glo 45) ⟨rfl, by decide, by decide⟩ (fun _ _ _ _ _ _ us hl => match us, hl with | [_, _], _ => rfl) (fun X W d => body_faces_apart T d)
theorem body_apart (T : Tp fa fn bx K mg) {X : Cx} {W : WX} (d : JD P w K mg base nm_apart (defScope (top 42)) vw_apart 6 X W) : JB X W (defBody (top 42)) t_apart :=
  jb_cons (js_for d (ji_val (je_call d.toJC (Tj_faces T) (by decide) (mm 0) (ja_cons (jv d.toJC 0 (mm 0) rfl) (ja_nil)))) (jg_name d.toJC 2 rfl (.inl (d.toJC.sC.loc 2 (mm 2) _ rfl))) (jb_one (js_for d (ji_val (je_call d.toJC (Tj_faces T) (by decide) (mm 0) (ja_cons (jv d.toJC 1 (mm 1) rfl) (ja_nil)))) (jg_name d.toJC 3 rfl (.inl (d.toJC.sC.loc 3 (mm 3) _ rfl))) (jb_cons (js_set d.toJC 4 rfl (.inl (d.toJC.sC.loc 4 (mm 4) _ rfl)) (je_call d.toJC (Tj_faces_apart T) (by decide) (mm 1) (ja_cons (jv d.toJC 2 (mm 2) rfl) (ja_cons (jv d.toJC 3 (mm 3) rfl) (ja_nil))))) (jb_one (js_if (jt_w (jw_and (jt_cmp opD_isNot (jv d.toJC 4 (mm 4) rfl) (je_non) rfl) (jw_and1 (jt_cmp opD_gt (je_call d.toJC (Tj_root_sign T) (by decide) (mm 2) (ja_cons (jv d.toJC 4 (mm 4) rfl) (ja_nil))) (je_int) rfl)))) (jb_one (js_ret (jv d.toJC 4 (mm 4) rfl))) (jb_nil))))))) (jb_one (js_ret (je_call d.toJC (Tj_from_frac T) (by decide) (mm 3) (ja_cons (je_glob d.toJC (mm 4) (Tk_ZERO T)) (ja_nil)))))
theorem Tj_apart (T : Tp fa fn bx K mg) : JF P w K mg base "apart" 2 [] (fun ds _ => ds) 7 m_apart := by
  obtain ⟨fd, F⟩ := T.sy.def_ 33 (d := d_apart) rfl
  exact jf_mkN F fs_apart sc_apart (T.glo 10) ⟨rfl, by decide, by decide⟩ (fun _ _ _ _ _ _ us hl => match us, hl with | [_, _], _ => rfl) (fun X W d => body_apart T d)
theorem body_l_bag (T : Tp fa fn bx K mg) {X : Cx} {W : WX} (d : JD P w K mg base nm_l_bag (defScope (top 44)) vw_l_bag 0 X W) : JB X W (defBody (top 44)) t_l_bag :=
  jb_cons (js_set d.toJC 2 rfl (.inl (d.toJC.sC.loc 2 (mm 2) _ rfl)) (je_int)) (jb_cons (js_if (jt_cmp opD_lt (jv d.toJC 1 (mm 1) rfl) (je_callB d.toJC cd_len (mm 0) (T.free 3) (by decide +kernel) (ja_cons (jv d.toJC 0 (mm 0) rfl) (ja_nil))) rfl) (jb_one (js_set d.toJC 2 rfl (.inl (d.toJC.sC.loc 2 (mm 2) _ rfl)) (je_ix (jv d.toJC 0 (mm 0) rfl) (jv d.toJC 1 (mm 1) rfl)))) (jb_nil)) (jb_cons (js_set d.toJC 3 rfl (.inl (d.toJC.sC.loc 3 (mm 3) _ rfl)) (je_int)) (jb_cons (js_if (jt_cmp opD_ge (je_callB d.toJC cd_abs (mm 1) (T.free 25) (by decide +kernel) (ja_cons (jv d.toJC 2 (mm 2) rfl) (ja_nil))) (je_op opD_pow (je_int) (je_int)) rfl) (jb_one (js_set d.toJC 3 rfl (.inl (d.toJC.sC.loc 3 (mm 3) _ rfl)) (je_callB d.toJC cd_abs (mm 1) (T.free 25) (by decide +kernel) (ja_cons (jv d.toJC 2 (mm 2) rfl) (ja_nil))))) (jb_nil)) (jb_cons (js_set d.toJC 4 rfl (.inl (d.toJC.sC.loc 4 (mm 4) _ rfl)) (je_lst (ja_cons (je_int) (ja_cons (je_int) (ja_cons (je_int) (ja_cons (je_int) (ja_cons (je_int) (ja_cons (je_int) (ja_cons (je_int) (ja_cons (je_int) (ja_nil))))))))))) (jb_one (js_ret (je_lstR (ja_cons (jv d.toJC 3 (mm 3) rfl) (ja_cons (je_op opD_mod (je_op opD_pow (je_op opD_add (je_op opD_add (je_op opD_mod (jv d.toJC 2 (mm 2) rfl) (je_int)) (je_op opD_mul (je_int) (jv d.toJC 1 (mm 1) rfl))) (je_int)) (je_int)) (je_ix (jv d.toJC 4 (mm 4) rfl) (je_op opD_mod (jv d.toJC 1 (mm 1) rfl) (je_int)))) (ja_nil))))))))))
theorem Tj_l_bag (T : Tp fa fn bx K mg) : JF P w K mg base "_law_bag" 2 [] (fun ds _ => ds) 1 m_l_bag := by
  obtain ⟨fd, F⟩ := T.sy.def_ 34 (d := d_l_bag) rfl
  exact jf_mkN F fs_l_bag sc_l_bag (T.glo 4) ⟨rfl, by decide, by decide⟩ (fun _ _ _ _ _ _ us hl => match us, hl with | [_, _], _ => rfl) (fun X W d => body_l_bag T d)
theorem body_l_take (T : Tp fa fn bx K mg) {X : Cx} {W : WX} (d : JD P w K mg base nm_l_take (defScope (top 45)) vw_l_take 0 X W) : JB X W (defBody (top 45)) t_l_take :=
  jb_cons (js_if (jt_cmp opD_gt (je_ix (jv d.toJC 0 (mm 0) rfl) (je_int)) (je_int) rfl) (jb_cons (js_set d.toJC 2 rfl (.inl (d.toJC.sC.loc 2 (mm 2) _ rfl)) (je_op opD_mod (je_ix (jv d.toJC 0 (mm 0) rfl) (je_int)) (jv d.toJC 1 (mm 1) rfl))) (jb_cons (js_sub (jv d.toJC 0 (mm 0) rfl) (je_int) (je_op opD_div (je_ix (jv d.toJC 0 (mm 0) rfl) (je_int)) (jv d.toJC 1 (mm 1) rfl))) (jb_one (js_ret (jv d.toJC 2 (mm 2) rfl))))) (jb_nil)) (jb_cons (js_sub (jv d.toJC 0 (mm 0) rfl) (je_int) (je_op opD_mod (je_op opD_add (je_op opD_mul (je_ix (jv d.toJC 0 (mm 0) rfl) (je_int)) (je_int)) (je_int)) (je_int))) (jb_one (js_ret (je_op opD_mod (je_op opD_mod (je_op opD_pow (je_op opD_div (je_ix (jv d.toJC 0 (mm 0) rfl) (je_int)) (je_int)) (je_int)) (je_int)) (jv d.toJC 1 (mm 1) rfl)))))
theorem Tj_l_take (T : Tp fa fn bx K mg) : JF P w K mg base "_law_take" 2 [] (fun ds _ => ds) 1 m_l_take := by
  obtain ⟨fd, F⟩ := T.sy.def_ 35 (d := d_l_take) rfl
  exact jf_mkN F fs_l_take sc_l_take (T.glo 5) ⟨rfl, by decide, by decide⟩ (fun _ _ _ _ _ _ us hl => match us, hl with | [_, _], _ => rfl) (fun X W d => body_l_take T d)
theorem body_l_turned (T : Tp fa fn bx K mg) {X : Cx} {W : WX} (d : JD P w K mg base nm_l_turned (defScope (top 46)) vw_l_turned 0 X W) : JB X W (defBody (top 46)) t_l_turned :=
  jb_cons (js_asg (jv d.toJC 0 (mm 0) rfl) (jg_tup d.toJC.calm (jgs_cons (jg_name d.toJC 2 rfl (.inl (d.toJC.sC.loc 2 (mm 2) _ rfl))) (jgs_cons (jg_name d.toJC 3 rfl (.inl (d.toJC.sC.loc 3 (mm 3) _ rfl))) (jgs_nil))))) (jb_cons (js_for d (ji_r1 d.toJC (mm 0) (T.free 0) (ja_cons (je_op opD_mod (jv d.toJC 1 (mm 1) rfl) (je_int)) (ja_nil))) (jg_name d.toJC 4 rfl (.inl (d.toJC.sC.loc 4 (mm 4) _ rfl))) (jb_one (js_par d.toJC 2 3 rfl rfl (by decide) (d.toJC.sC.loc 2 (mm 2) _ rfl) (d.toJC.sC.loc 3 (mm 3) _ rfl) (ja_cons (je_op opD_sub (je_int) (jv d.toJC 3 (mm 3) rfl)) (ja_cons (jv d.toJC 2 (mm 2) rfl) (ja_nil))) (sw2 d.toJC.kd (by rw [d.toJC.ss]; exact (d.toJC.sC.loc 2 (mm 2) _ rfl)) (by rw [d.toJC.ss]; exact (d.toJC.sC.loc 3 (mm 3) _ rfl)) rfl (by decide +kernel) rfl rfl rfl)))) (jb_one (js_ret (je_tup (ja_cons (jv d.toJC 2 (mm 2) rfl) (ja_cons (jv d.toJC 3 (mm 3) rfl) (ja_nil)))))))
theorem Tj_l_turned (T : Tp fa fn bx K mg) : JF P w K mg base "_law_turned" 2 [] (fun ds _ => ds) 1 m_l_turned := by
  obtain ⟨fd, F⟩ := T.sy.def_ 36 (d := d_l_turned) rfl
  exact jf_mkN F fs_l_turned sc_l_turned (T.glo 54) ⟨rfl, by decide, by decide⟩ (fun _ _ _ _ _ _ us hl => match us, hl with | [_, _], _ => rfl) (fun X W d => body_l_turned T d)
theorem body_l_thing (T : Tp fa fn bx K mg) {X : Cx} {W : WX} (d : JD P w K mg base nm_l_thing (defScope (top 47)) vw_l_thing 1 X W) : JB X W (defBody (top 47)) t_l_thing :=
  jb_cons (js_par d.toJC 3 4 rfl rfl (by decide) (d.toJC.sC.loc 3 (mm 3) _ rfl) (d.toJC.sC.loc 4 (mm 4) _ rfl) (ja_cons (je_op opD_add (je_int) (je_call d.toJC (Tj_l_take T) (by decide) (mm 0) (ja_cons (jv d.toJC 0 (mm 0) rfl) (ja_cons (je_int) (ja_nil))))) (ja_cons (je_call d.toJC (Tj_l_take T) (by decide) (mm 0) (ja_cons (jv d.toJC 0 (mm 0) rfl) (ja_cons (je_int) (ja_nil)))) (ja_nil))) (sw2 d.toJC.kd (by rw [d.toJC.ss]; exact (d.toJC.sC.loc 3 (mm 3) _ rfl)) (by rw [d.toJC.ss]; exact (d.toJC.sC.loc 4 (mm 4) _ rfl)) rfl (by decide +kernel) rfl rfl rfl)) (jb_cons (js_set d.toJC 5 rfl (.inl (d.toJC.sC.loc 5 (mm 5) _ rfl)) (je_tup (ja_cons (je_op opD_sub (je_call d.toJC (Tj_l_take T) (by decide) (mm 0) (ja_cons (jv d.toJC 0 (mm 0) rfl) (ja_cons (je_op opD_add (je_op opD_mul (je_int) (jv d.toJC 1 (mm 1) rfl)) (je_int)) (ja_nil)))) (jv d.toJC 1 (mm 1) rfl)) (ja_cons (je_op opD_sub (je_call d.toJC (Tj_l_take T) (by decide) (mm 0) (ja_cons (jv d.toJC 0 (mm 0) rfl) (ja_cons (je_op opD_add (je_op opD_mul (je_int) (jv d.toJC 1 (mm 1) rfl)) (je_int)) (ja_nil)))) (jv d.toJC 1 (mm 1) rfl)) (ja_nil))))) (jb_cons (js_set d.toJC 6 rfl (.inl (d.toJC.sC.loc 6 (mm 6) _ rfl)) (je_lst (ja_cons (je_tup (ja_cons (je_int) (ja_cons (je_int) (ja_nil)))) (ja_cons (je_tup (ja_cons (je_int) (ja_cons (je_int) (ja_nil)))) (ja_cons (je_tup (ja_cons (je_int) (ja_cons (je_int) (ja_nil)))) (ja_cons (je_tup (ja_cons (je_int) (ja_cons (je_int) (ja_nil)))) (ja_cons (je_tup (ja_cons (je_int) (ja_cons (je_int) (ja_nil)))) (ja_cons (je_tup (ja_cons (je_int) (ja_cons (je_int) (ja_nil)))) (ja_cons (je_tup (ja_cons (je_int) (ja_cons (je_int) (ja_nil)))) (ja_cons (je_tup (ja_cons (je_int) (ja_cons (je_int) (ja_nil)))) (ja_nil))))))))))) (jb_cons (js_set d.toJC 7 rfl (.inl (d.toJC.sC.loc 7 (mm 7) _ rfl)) (je_lst (ja_cons (je_tup (ja_cons (je_tup (ja_cons (je_int) (ja_cons (je_int) (ja_nil)))) (ja_cons (je_tup (ja_cons (je_neg (je_int)) (ja_cons (je_int) (ja_nil)))) (ja_nil)))) (ja_cons (je_tup (ja_cons (je_tup (ja_cons (je_int) (ja_cons (je_int) (ja_nil)))) (ja_cons (je_tup (ja_cons (je_neg (je_int)) (ja_cons (je_int) (ja_nil)))) (ja_nil)))) (ja_cons (je_tup (ja_cons (je_tup (ja_cons (je_int) (ja_cons (je_int) (ja_nil)))) (ja_cons (je_tup (ja_cons (je_neg (je_int)) (ja_cons (je_int) (ja_nil)))) (ja_nil)))) (ja_cons (je_tup (ja_cons (je_tup (ja_cons (je_int) (ja_cons (je_int) (ja_nil)))) (ja_cons (je_tup (ja_cons (je_neg (je_int)) (ja_cons (je_int) (ja_nil)))) (ja_nil)))) (ja_cons (je_tup (ja_cons (je_tup (ja_cons (je_int) (ja_cons (je_int) (ja_nil)))) (ja_cons (je_tup (ja_cons (je_neg (je_int)) (ja_cons (je_int) (ja_nil)))) (ja_nil)))) (ja_nil)))))))) (jb_cons (js_set d.toJC 7 rfl (.inl (d.toJC.sC.loc 7 (mm 7) _ rfl)) (je_op opD_cat (jv d.toJC 7 (mm 7) rfl) (je_lst (ja_cons (je_tup (ja_cons (je_tup (ja_cons (je_int) (ja_cons (je_int) (ja_nil)))) (ja_cons (je_tup (ja_cons (je_int) (ja_cons (je_int) (ja_nil)))) (ja_nil)))) (ja_cons (je_tup (ja_cons (je_tup (ja_cons (je_int) (ja_cons (je_int) (ja_nil)))) (ja_cons (je_tup (ja_cons (je_neg (je_int)) (ja_cons (je_int) (ja_nil)))) (ja_nil)))) (ja_cons (je_tup (ja_cons (je_tup (ja_cons (je_int) (ja_cons (je_int) (ja_nil)))) (ja_cons (je_tup (ja_cons (je_neg (je_int)) (ja_cons (je_neg (je_int)) (ja_nil)))) (ja_nil)))) (ja_cons (je_tup (ja_cons (je_tup (ja_cons (je_int) (ja_cons (je_int) (ja_nil)))) (ja_cons (je_tup (ja_cons (je_neg (je_int)) (ja_cons (je_int) (ja_nil)))) (ja_nil)))) (ja_nil)))))))) (jb_cons (js_if (jt_cmp opD_lt (jv d.toJC 2 (mm 2) rfl) (je_int) rfl) (jb_one (js_ret (je_tup (ja_cons (je_str) (ja_cons (jv d.toJC 5 (mm 5) rfl) (ja_nil)))))) (jb_nil)) (jb_cons (js_set d.toJC 8 rfl (.inl (d.toJC.sC.loc 8 (mm 8) _ rfl)) (je_lst (ja_cons (je_ix (jv d.toJC 6 (mm 6) rfl) (je_call d.toJC (Tj_l_take T) (by decide) (mm 0) (ja_cons (jv d.toJC 0 (mm 0) rfl) (ja_cons (je_int) (ja_nil))))) (ja_nil)))) (jb_cons (js_if (jt_cmp opD_gt (jv d.toJC 2 (mm 2) rfl) (je_int) rfl) (jb_one (js_set d.toJC 8 rfl (.inl (d.toJC.sC.loc 8 (mm 8) _ rfl)) (je_callTy d.toJC cd_lst (mm 1) (T.free 53) (by decide +kernel) (ja_cons (je_ix (jv d.toJC 7 (mm 7) rfl) (je_call d.toJC (Tj_l_take T) (by decide) (mm 0) (ja_cons (jv d.toJC 0 (mm 0) rfl) (ja_cons (je_int) (ja_nil))))) (ja_nil))))) (jb_nil)) (jb_cons (js_set d.toJC 9 rfl (.inl (d.toJC.sC.loc 9 (mm 9) _ rfl)) (je_lstR (ja_nil))) (jb_cons (js_for d (ji_val (jv d.toJC 8 (mm 8) rfl)) (jg_name d.toJC 10 rfl (.inl (d.toJC.sC.loc 10 (mm 10) _ rfl))) (jb_cons (js_asg (je_call d.toJC (Tj_l_turned T) (by decide) (mm 2) (ja_cons (je_tup (ja_cons (je_op opD_mul (je_ix (jv d.toJC 10 (mm 10) rfl) (je_int)) (jv d.toJC 3 (mm 3) rfl)) (ja_cons (je_op opD_mul (je_ix (jv d.toJC 10 (mm 10) rfl) (je_int)) (jv d.toJC 3 (mm 3) rfl)) (ja_nil)))) (ja_cons (jv d.toJC 4 (mm 4) rfl) (ja_nil)))) (jg_tup d.toJC.calm (jgs_cons (jg_name d.toJC 11 rfl (.inl (d.toJC.sC.loc 11 (mm 11) _ rfl))) (jgs_cons (jg_name d.toJC 12 rfl (.inl (d.toJC.sC.loc 12 (mm 12) _ rfl))) (jgs_nil))))) (jb_one (js_expr (je_append (jv d.toJC 9 (mm 9) rfl) (ja_cons (je_tup (ja_cons (je_op opD_add (je_ix (jv d.toJC 5 (mm 5) rfl) (je_int)) (jv d.toJC 11 (mm 11) rfl)) (ja_cons (je_op opD_add (je_ix (jv d.toJC 5 (mm 5) rfl) (je_int)) (jv d.toJC 12 (mm 12) rfl)) (ja_nil)))) (ja_nil))))))) (jb_cons (js_if (jt_cmp opD_lt (jv d.toJC 2 (mm 2) rfl) (je_int) rfl) (jb_one (js_ret (je_tup (ja_cons (je_str) (ja_cons (jv d.toJC 5 (mm 5) rfl) (ja_cons (je_ix (jv d.toJC 9 (mm 9) rfl) (je_int)) (ja_nil))))))) (jb_nil)) (jb_one (js_ret (je_tup (ja_cons (je_str) (ja_cons (jv d.toJC 5 (mm 5) rfl) (ja_cons (je_ix (jv d.toJC 9 (mm 9) rfl) (je_int)) (ja_cons (je_ix (jv d.toJC 9 (mm 9) rfl) (je_int)) (ja_nil))))))))))))))))))
theorem Tj_l_thing (T : Tp fa fn bx K mg) : JF P w K mg base "_law_thing" 3 [] (fun ds _ => ds) 2 m_l_thing := by
  obtain ⟨fd, F⟩ := T.sy.def_ 37 (d := d_l_thing) rfl
  exact jf_mkN F fs_l_thing sc_l_thing (T.glo 6) ⟨rfl, by decide, by decide⟩ (fun _ _ _ _ _ _ us hl => match us, hl with | [_, _, _], _ => rfl) (fun X W d => body_l_thing T d)
theorem body_l_low (T : Tp fa fn bx K mg) {X : Cx} {W : WX} (d : JD P w K mg base nm_l_low (defScope (top 48)) vw_l_low 0 X W) : JB X W (defBody (top 48)) t_l_low :=
  jb_cons (js_par d.toJC 2 3 rfl rfl (by decide) (d.toJC.sC.loc 2 (mm 2) _ rfl) (d.toJC.sC.loc 3 (mm 3) _ rfl) (ja_cons (je_callB d.toJC cd_abs (mm 0) (T.free 25) (by decide +kernel) (ja_cons (jv d.toJC 0 (mm 0) rfl) (ja_nil))) (ja_cons (jv d.toJC 1 (mm 1) rfl) (ja_nil))) (sw2 d.toJC.kd (by rw [d.toJC.ss]; exact (d.toJC.sC.loc 2 (mm 2) _ rfl)) (by rw [d.toJC.ss]; exact (d.toJC.sC.loc 3 (mm 3) _ rfl)) rfl (by decide +kernel) rfl rfl rfl)) (jb_cons (js_while d (jt_cmp opD_gt (jv d.toJC 2 (mm 2) rfl) (je_int) rfl) (jb_one (js_par d.toJC 2 3 rfl rfl (by decide) (d.toJC.sC.loc 2 (mm 2) _ rfl) (d.toJC.sC.loc 3 (mm 3) _ rfl) (ja_cons (je_op opD_mod (jv d.toJC 3 (mm 3) rfl) (jv d.toJC 2 (mm 2) rfl)) (ja_cons (jv d.toJC 2 (mm 2) rfl) (ja_nil))) (sw2 d.toJC.kd (by rw [d.toJC.ss]; exact (d.toJC.sC.loc 2 (mm 2) _ rfl)) (by rw [d.toJC.ss]; exact (d.toJC.sC.loc 3 (mm 3) _ rfl)) rfl (by decide +kernel) rfl rfl rfl)))) (jb_one (js_ret (je_tup (ja_cons (je_op opD_div (jv d.toJC 0 (mm 0) rfl) (jv d.toJC 3 (mm 3) rfl)) (ja_cons (je_op opD_div (jv d.toJC 1 (mm 1) rfl) (jv d.toJC 3 (mm 3) rfl)) (ja_nil)))))))
theorem Tj_l_low (T : Tp fa fn bx K mg) : JF P w K mg base "_law_low" 2 [] (fun ds _ => ds) 1 m_l_low := by
  obtain ⟨fd, F⟩ := T.sy.def_ 38 (d := d_l_low) rfl
  exact jf_mkN F fs_l_low sc_l_low (T.glo 57) ⟨rfl, by decide, by decide⟩ (fun _ _ _ _ _ _ us hl => match us, hl with | [_, _], _ => rfl) (fun X W d => body_l_low T d)
theorem body_l_part (T : Tp fa fn bx K mg) {X : Cx} {W : WX} (d : JD P w K mg base nm_l_part (defScope (top 49)) vw_l_part 1 X W) : JB X W (defBody (top 49)) t_l_part :=
  jb_cons (js_set d.toJC 2 rfl (.inl (d.toJC.sC.loc 2 (mm 2) _ rfl)) (je_ix (je_lst (ja_cons (je_int) (ja_cons (je_int) (ja_cons (je_int) (ja_cons (je_int) (ja_cons (je_int) (ja_cons (je_int) (ja_nil)))))))) (je_call d.toJC (Tj_l_take T) (by decide) (mm 0) (ja_cons (jv d.toJC 0 (mm 0) rfl) (ja_cons (je_int) (ja_nil)))))) (jb_one (js_ret (je_call d.toJC (Tj_l_low T) (by decide) (mm 1) (ja_cons (je_op opD_sub (je_call d.toJC (Tj_l_take T) (by decide) (mm 0) (ja_cons (jv d.toJC 0 (mm 0) rfl) (ja_cons (je_op opD_add (je_op opD_mul (je_op opD_mul (je_int) (jv d.toJC 1 (mm 1) rfl)) (jv d.toJC 2 (mm 2) rfl)) (je_int)) (ja_nil)))) (je_op opD_mul (jv d.toJC 1 (mm 1) rfl) (jv d.toJC 2 (mm 2) rfl))) (ja_cons (jv d.toJC 2 (mm 2) rfl) (ja_nil))))))
theorem Tj_l_part (T : Tp fa fn bx K mg) : JF P w K mg base "_law_part" 2 [] (fun ds _ => ds) 2 m_l_part := by
  obtain ⟨fd, F⟩ := T.sy.def_ 39 (d := d_l_part) rfl
  exact jf_mkN F fs_l_part sc_l_part (T.glo 55) ⟨rfl, by decide, by decide⟩ (fun _ _ _ _ _ _ us hl => match us, hl with | [_, _], _ => rfl) (fun X W d => body_l_part T d)
theorem body_l_sum (T : Tp fa fn bx K mg) {X : Cx} {W : WX} (d : JD P w K mg base nm_l_sum (defScope (top 51)) vw_l_sum 1 X W) : JB X W (defBody (top 51)) t_l_sum :=
  jb_one (js_ret (je_call d.toJC (Tj_l_low T) (by decide) (mm 0) (ja_cons (je_op opD_add (je_op opD_mul (je_ix (jv d.toJC 0 (mm 0) rfl) (je_int)) (je_ix (jv d.toJC 1 (mm 1) rfl) (je_int))) (je_op opD_mul (je_ix (jv d.toJC 1 (mm 1) rfl) (je_int)) (je_ix (jv d.toJC 0 (mm 0) rfl) (je_int)))) (ja_cons (je_op opD_mul (je_ix (jv d.toJC 0 (mm 0) rfl) (je_int)) (je_ix (jv d.toJC 1 (mm 1) rfl) (je_int))) (ja_nil)))))
theorem Tj_l_sum (T : Tp fa fn bx K mg) : JF P w K mg base "_law_sum" 2 [] (fun ds _ => ds) 2 m_l_sum := by
  obtain ⟨fd, F⟩ := T.sy.def_ 40 (d := d_l_sum) rfl
  exact jf_mkN F fs_l_sum sc_l_sum (T.glo 58) ⟨rfl, by decide, by decide⟩ (fun _ _ _ _ _ _ us hl => match us, hl with | [_, _], _ => rfl) (fun X W d => body_l_sum T d)
theorem body_l_place (T : Tp fa fn bx K mg) {X : Cx} {W : WX} (d : JD P w K mg base nm_l_place (defScope (top 50)) vw_l_place 2 X W) : JB X W (defBody (top 50)) t_l_place :=
  jb_cons (js_set d.toJC 3 rfl (.inl (d.toJC.sC.loc 3 (mm 3) _ rfl)) (je_call d.toJC (Tj_l_take T) (by decide) (mm 0) (ja_cons (jv d.toJC 0 (mm 0) rfl) (ja_cons (je_int) (ja_nil))))) (jb_cons (js_set d.toJC 4 rfl (.inl (d.toJC.sC.loc 4 (mm 4) _ rfl)) (je_tup (ja_cons (je_call d.toJC (Tj_l_part T) (by decide) (mm 1) (ja_cons (jv d.toJC 0 (mm 0) rfl) (ja_cons (jv d.toJC 1 (mm 1) rfl) (ja_nil)))) (ja_cons (je_call d.toJC (Tj_l_part T) (by decide) (mm 1) (ja_cons (jv d.toJC 0 (mm 0) rfl) (ja_cons (jv d.toJC 1 (mm 1) rfl) (ja_nil)))) (ja_nil))))) (jb_cons (js_if (jt_w (jw_or (jt_cmp opD_gt (jv d.toJC 3 (mm 3) rfl) (je_int) rfl) (jw_or1 (jt_cmp (opD_eq d.toJC.room) (jv d.toJC 2 (mm 2) rfl) (je_lst (ja_nil)) rfl)))) (jb_one (js_ret (jv d.toJC 4 (mm 4) rfl))) (jb_nil)) (jb_cons (js_set d.toJC 5 rfl (.inl (d.toJC.sC.loc 5 (mm 5) _ rfl)) (je_ix (jv d.toJC 2 (mm 2) rfl) (je_call d.toJC (Tj_l_take T) (by decide) (mm 0) (ja_cons (jv d.toJC 0 (mm 0) rfl) (ja_cons (je_callB d.toJC cd_len (mm 2) (T.free 3) (by decide +kernel) (ja_cons (jv d.toJC 2 (mm 2) rfl) (ja_nil))) (ja_nil)))))) (jb_cons (js_set d.toJC 6 rfl (.inl (d.toJC.sC.loc 6 (mm 6) _ rfl)) (je_sl (jv d.toJC 5 (mm 5) rfl) (jo_some (je_int)) (jo_none))) (jb_cons (js_par d.toJC 7 8 rfl rfl (by decide) (d.toJC.sC.loc 7 (mm 7) _ rfl) (d.toJC.sC.loc 8 (mm 8) _ rfl) (ja_cons (je_ix (jv d.toJC 6 (mm 6) rfl) (je_call d.toJC (Tj_l_take T) (by decide) (mm 0) (ja_cons (jv d.toJC 0 (mm 0) rfl) (ja_cons (je_callB d.toJC cd_len (mm 2) (T.free 3) (by decide +kernel) (ja_cons (jv d.toJC 6 (mm 6) rfl) (ja_nil))) (ja_nil))))) (ja_cons (je_ix (jv d.toJC 6 (mm 6) rfl) (je_call d.toJC (Tj_l_take T) (by decide) (mm 0) (ja_cons (jv d.toJC 0 (mm 0) rfl) (ja_cons (je_callB d.toJC cd_len (mm 2) (T.free 3) (by decide +kernel) (ja_cons (jv d.toJC 6 (mm 6) rfl) (ja_nil))) (ja_nil))))) (ja_nil))) (sw2 d.toJC.kd (by rw [d.toJC.ss]; exact (d.toJC.sC.loc 7 (mm 7) _ rfl)) (by rw [d.toJC.ss]; exact (d.toJC.sC.loc 8 (mm 8) _ rfl)) rfl (by decide +kernel) rfl rfl rfl)) (jb_cons (js_set d.toJC 9 rfl (.inl (d.toJC.sC.loc 9 (mm 9) _ rfl)) (je_ix (je_lst (ja_cons (je_int) (ja_cons (je_int) (ja_cons (je_int) (ja_cons (je_int) (ja_cons (je_neg (je_int)) (ja_cons (je_int) (ja_nil)))))))) (je_call d.toJC (Tj_l_take T) (by decide) (mm 0) (ja_cons (jv d.toJC 0 (mm 0) rfl) (ja_cons (je_int) (ja_nil)))))) (jb_cons (js_set d.toJC 10 rfl (.inl (d.toJC.sC.loc 10 (mm 10) _ rfl)) (je_lstR (ja_nil))) (jb_cons (js_for d (ji_zip d.toJC (mm 3) (T.free 56) (jv d.toJC 7 (mm 7) rfl) (jv d.toJC 8 (mm 8) rfl)) (jg_tup d.toJC.calm (jgs_cons (jg_name d.toJC 11 rfl (.inl (d.toJC.sC.loc 11 (mm 11) _ rfl))) (jgs_cons (jg_name d.toJC 12 rfl (.inl (d.toJC.sC.loc 12 (mm 12) _ rfl))) (jgs_nil)))) (jb_one (js_expr (je_append (jv d.toJC 10 (mm 10) rfl) (ja_cons (je_call d.toJC (Tj_l_low T) (by decide) (mm 4) (ja_cons (je_op opD_add (je_op opD_mul (jv d.toJC 11 (mm 11) rfl) (je_int)) (je_op opD_mul (je_op opD_sub (jv d.toJC 12 (mm 12) rfl) (jv d.toJC 11 (mm 11) rfl)) (jv d.toJC 9 (mm 9) rfl))) (ja_cons (je_int) (ja_nil)))) (ja_nil)))))) (jb_cons (js_if (jt_cmp (opD_eq d.toJC.room) (jv d.toJC 3 (mm 3) rfl) (je_int) rfl) (jb_cons (js_set d.toJC 13 rfl (.inl (d.toJC.sC.loc 13 (mm 13) _ rfl)) (je_lst (ja_cons (je_call d.toJC (Tj_l_low T) (by decide) (mm 4) (ja_cons (je_op opD_mul (je_op opD_sub (je_ix (jv d.toJC 8 (mm 8) rfl) (je_int)) (je_ix (jv d.toJC 7 (mm 7) rfl) (je_int))) (jv d.toJC 9 (mm 9) rfl)) (ja_cons (je_int) (ja_nil)))) (ja_cons (je_call d.toJC (Tj_l_low T) (by decide) (mm 4) (ja_cons (je_op opD_mul (je_op opD_sub (je_ix (jv d.toJC 8 (mm 8) rfl) (je_int)) (je_ix (jv d.toJC 7 (mm 7) rfl) (je_int))) (jv d.toJC 9 (mm 9) rfl)) (ja_cons (je_int) (ja_nil)))) (ja_nil))))) (jb_one (js_set d.toJC 10 rfl (.inl (d.toJC.sC.loc 10 (mm 10) _ rfl)) (je_lstR (ja_cons (je_call d.toJC (Tj_l_sum T) (by decide) (mm 5) (ja_cons (je_ix (jv d.toJC 10 (mm 10) rfl) (je_int)) (ja_cons (je_tup (ja_cons (je_op opD_sub (je_int) (je_ix (je_ix (jv d.toJC 13 (mm 13) rfl) (je_int)) (je_int))) (ja_cons (je_ix (je_ix (jv d.toJC 13 (mm 13) rfl) (je_int)) (je_int)) (ja_nil)))) (ja_nil)))) (ja_cons (je_call d.toJC (Tj_l_sum T) (by decide) (mm 5) (ja_cons (je_ix (jv d.toJC 10 (mm 10) rfl) (je_int)) (ja_cons (je_ix (jv d.toJC 13 (mm 13) rfl) (je_int)) (ja_nil)))) (ja_nil))))))) (jb_nil)) (jb_one (js_ret (je_tup (ja_cons (je_ix (jv d.toJC 10 (mm 10) rfl) (je_int)) (ja_cons (je_ix (jv d.toJC 10 (mm 10) rfl) (je_int)) (ja_nil)))))))))))))))
theorem Tj_l_place (T : Tp fa fn bx K mg) : JF P w K mg base "_law_place" 3 [] (fun ds _ => ds) 3 m_l_place := by
  obtain ⟨fd, F⟩ := T.sy.def_ 41 (d := d_l_place) rfl
  exact jf_mkN F fs_l_place sc_l_place (T.glo 7) ⟨rfl, by decide, by decide⟩ (fun _ _ _ _ _ _ us hl => match us, hl with | [_, _, _], _ => rfl) (fun X W d => body_l_place T d)
theorem body_l_more (T : Tp fa fn bx K mg) {X : Cx} {W : WX} (d : JD P w K mg base nm_l_more (defScope (top 59)) vw_l_more 0 X W) : JB X W (defBody (top 59)) t_l_more :=
  jb_one (js_ret (je_ifExp (jt_tru (je_isi d.toJC (mm 0) (T.free 29) (mm 1) (T.free 49) (by decide +kernel) (jv d.toJC 0 (mm 0) rfl))) (je_op opD_add (jv d.toJC 0 (mm 0) rfl) (jv d.toJC 1 (mm 1) rfl)) (je_tup (ja_cons (je_op opD_add (je_ix (jv d.toJC 0 (mm 0) rfl) (je_int)) (je_op opD_mul (jv d.toJC 1 (mm 1) rfl) (je_ix (jv d.toJC 0 (mm 0) rfl) (je_int)))) (ja_cons (je_ix (jv d.toJC 0 (mm 0) rfl) (je_int)) (ja_nil))))))
theorem Tj_l_more (T : Tp fa fn bx K mg) : JF P w K mg base "_law_more" 2 [] (fun ds _ => ds) 1 m_l_more := by
  obtain ⟨fd, F⟩ := T.sy.def_ 42 (d := d_l_more) rfl
  exact jf_mkN F fs_l_more sc_l_more (T.glo 59) ⟨rfl, by decide, by decide⟩ (fun _ _ _ _ _ _ us hl => match us, hl with | [_, _], _ => rfl) (fun X W d => body_l_more T d)
theorem body_l_less (T : Tp fa fn bx K mg) {X : Cx} {W : WX} (d : JD P w K mg base nm_l_less (defScope (top 60)) vw_l_less 0 X W) : JB X W (defBody (top 60)) t_l_less :=
  jb_one (js_ret (je_ifExp (jt_tru (je_isi d.toJC (mm 0) (T.free 29) (mm 1) (T.free 49) (by decide +kernel) (jv d.toJC 0 (mm 0) rfl))) (je_op opD_sub (je_int) (jv d.toJC 0 (mm 0) rfl)) (je_tup (ja_cons (je_op opD_sub (je_int) (je_ix (jv d.toJC 0 (mm 0) rfl) (je_int))) (ja_cons (je_ix (jv d.toJC 0 (mm 0) rfl) (je_int)) (ja_nil))))))
theorem Tj_l_less (T : Tp fa fn bx K mg) : JF P w K mg base "_law_less" 1 [] (fun ds _ => ds) 1 m_l_less := by
  obtain ⟨fd, F⟩ := T.sy.def_ 43 (d := d_l_less) rfl
  exact jf_mkN F fs_l_less sc_l_less (T.glo 60) ⟨rfl, by decide, by decide⟩ (fun _ _ _ _ _ _ us hl => match us, hl with | [_], _ => rfl) (fun X W d => body_l_less T d)
theorem body_l_changed (T : Tp fa fn bx K mg) {X : Cx} {W : WX} (d : JD P w K mg base nm_l_changed (defScope (top 58)) vw_l_changed 1 X W) : JB X W (defBody (top 58)) t_l_changed :=
  jb_cons (js_asg (jv d.toJC 1 (mm 1) rfl) (jg_tup d.toJC.calm (jgs_cons (jg_name d.toJC 3 rfl (.inl (d.toJC.sC.loc 3 (mm 3) _ rfl))) (jgs_cons (jg_name d.toJC 4 rfl (.inl (d.toJC.sC.loc 4 (mm 4) _ rfl))) (jgs_nil))))) (jb_cons (js_if (jt_cmp (opD_eq d.toJC.room) (jv d.toJC 0 (mm 0) rfl) (je_int) rfl) (jb_one (js_ret (je_tup (ja_cons (je_call d.toJC (Tj_l_more T) (by decide) (mm 0) (ja_cons (jv d.toJC 3 (mm 3) rfl) (ja_cons (je_ix (jv d.toJC 2 (mm 2) rfl) (je_int)) (ja_nil)))) (ja_cons (je_call d.toJC (Tj_l_more T) (by decide) (mm 0) (ja_cons (jv d.toJC 4 (mm 4) rfl) (ja_cons (je_ix (jv d.toJC 2 (mm 2) rfl) (je_int)) (ja_nil)))) (ja_nil)))))) (jb_nil)) (jb_cons (js_if (jt_cmp opD_lt (jv d.toJC 0 (mm 0) rfl) (je_int) rfl) (jb_cons (js_for d (ji_r1 d.toJC (mm 1) (T.free 0) (ja_cons (jv d.toJC 0 (mm 0) rfl) (ja_nil))) (jg_name d.toJC 5 rfl (.inl (d.toJC.sC.loc 5 (mm 5) _ rfl))) (jb_one (js_par d.toJC 3 4 rfl rfl (by decide) (d.toJC.sC.loc 3 (mm 3) _ rfl) (d.toJC.sC.loc 4 (mm 4) _ rfl) (ja_cons (je_call d.toJC (Tj_l_less T) (by decide) (mm 2) (ja_cons (jv d.toJC 4 (mm 4) rfl) (ja_nil))) (ja_cons (jv d.toJC 3 (mm 3) rfl) (ja_nil))) (sw2 d.toJC.kd (by rw [d.toJC.ss]; exact (d.toJC.sC.loc 3 (mm 3) _ rfl)) (by rw [d.toJC.ss]; exact (d.toJC.sC.loc 4 (mm 4) _ rfl)) rfl (by decide +kernel) rfl rfl rfl)))) (jb_one (js_ret (je_tup (ja_cons (jv d.toJC 3 (mm 3) rfl) (ja_cons (jv d.toJC 4 (mm 4) rfl) (ja_nil))))))) (jb_nil)) (jb_one (js_ret (je_tup (ja_cons (je_call d.toJC (Tj_l_less T) (by decide) (mm 2) (ja_cons (jv d.toJC 3 (mm 3) rfl) (ja_nil))) (ja_cons (jv d.toJC 4 (mm 4) rfl) (ja_nil))))))))
theorem Tj_l_changed (T : Tp fa fn bx K mg) : JF P w K mg base "_law_changed" 3 [] (fun ds _ => ds) 2 m_l_changed := by
  obtain ⟨fd, F⟩ := T.sy.def_ 44 (d := d_l_changed) rfl
  exact jf_mkN F fs_l_changed sc_l_changed (T.glo 11) ⟨rfl, by decide, by decide⟩ (fun _ _ _ _ _ _ us hl => match us, hl with | [_, _, _], _ => rfl) (fun X W d => body_l_changed T d)
theorem body_l_thing_changed (T : Tp fa fn bx K mg) {X : Cx} {W : WX} (d : JD P w K mg base nm_l_thing_changed (defScope (top 61)) vw_l_thing_changed 2 X W) : JB X W (defBody (top 61)) t_l_thing_changed :=
  jb_cons (js_setLc d.toJC 3 rfl (d.toJC.sC.loc 3 (mm 1) _ rfl) rfl (by decide +kernel) (own := [(".0", 4), ("_law_spot", 5)]) (vw2 := vb0_l_thing_changed) (by decide +kernel) (scOf (by decide +kernel)) (by decide) (ji_val (je_sl (jv d.toJC 1 (mm 1) rfl) (jo_some (je_int)) (jo_none))) (fun _ c0 => jg_name c0 5 rfl (.inl (c0.sC.loc 5 (mm 1) _ rfl))) (fun _ c0 => jts_nil) (fun _ c0 => je_call c0 (Tj_l_changed T) (by decide) (mm 0) (ja_cons (jv c0 0 (mm 0) rfl) (ja_cons (jv c0 5 (mm 3) rfl) (ja_cons (jv c0 2 (mm 1) rfl) (ja_nil))))) (by walk_at "mo" <;> first | with_reducible exact (Tj_l_changed (P := P) (w := w) (base := base) T).mo) (by walk_at "mo" <;> first | with_reducible exact (Tj_l_changed (P := P) (w := w) (base := base) T).mo)) (jb_cons (js_if (jt_w (jw_and (jt_cmp (opD_eq d.toJC.room) (jv d.toJC 0 (mm 0) rfl) (je_int) rfl) (jw_and1 (jt_cmp (opD_eq d.toJC.room) (je_ix (jv d.toJC 1 (mm 1) rfl) (je_int)) (je_str) rfl)))) (jb_one (js_set d.toJC 3 rfl (.inl (d.toJC.sC.loc 3 (mm 1) _ rfl)) (je_lst (ja_cons (je_ix (jv d.toJC 3 (mm 3) rfl) (je_int)) (ja_cons (je_ix (jv d.toJC 3 (mm 3) rfl) (je_int)) (ja_cons (je_ix (jv d.toJC 3 (mm 3) rfl) (je_int)) (ja_nil))))))) (jb_nil)) (jb_one (js_ret (je_op opD_add (je_sl (jv d.toJC 1 (mm 1) rfl) (jo_none) (jo_some (je_int))) (je_callTy d.toJC cd_tup (mm 0) (T.free 28) (by decide +kernel) (ja_cons (jv d.toJC 3 (mm 3) rfl) (ja_nil)))))))
theorem Tj_l_thing_changed (T : Tp fa fn bx K mg) : JF P w K mg base "_law_thing_changed" 3 [] (fun ds _ => ds) 3 m_l_thing_changed := by
  obtain ⟨fd, F⟩ := T.sy.def_ 45 (d := d_l_thing_changed) rfl
  exact jf_mkN F fs_l_thing_changed sc_l_thing_changed (T.glo 9) ⟨rfl, by decide, by decide⟩ (fun _ _ _ _ _ _ us hl => match us, hl with | [_, _, _], _ => rfl) (fun X W d => body_l_thing_changed T d)
theorem body_l_rooted (T : Tp fa fn bx K mg) {X : Cx} {W : WX} (d : JD P w K mg base nm_l_rooted (defScope (top 52)) vw_l_rooted 0 X W) : JB X W (defBody (top 52)) t_l_rooted :=
  jb_cons (js_if (jt_cmp (opD_eq d.toJC.room) (jv d.toJC 0 (mm 0) rfl) (je_int) rfl) (jb_one (js_ret (je_int))) (jb_nil)) (jb_cons (js_set d.toJC 1 rfl (.inl (d.toJC.sC.loc 1 (mm 1) _ rfl)) (je_op opD_shl (je_int) (je_op opD_div (je_op opD_add (je_bits (jv d.toJC 0 (mm 0) rfl)) (je_int)) (je_int)))) (jb_cons (js_while d (jt_cmp opD_gt (je_op opD_mul (jv d.toJC 1 (mm 1) rfl) (jv d.toJC 1 (mm 1) rfl)) (jv d.toJC 0 (mm 0) rfl) rfl) (jb_one (js_set d.toJC 1 rfl (.inl (d.toJC.sC.loc 1 (mm 1) _ rfl)) (je_op opD_div (je_op opD_add (jv d.toJC 1 (mm 1) rfl) (je_op opD_div (jv d.toJC 0 (mm 0) rfl) (jv d.toJC 1 (mm 1) rfl))) (je_int))))) (jb_one (js_ret (jv d.toJC 1 (mm 1) rfl)))))
theorem Tj_l_rooted (T : Tp fa fn bx K mg) : JF P w K mg base "_law_rooted" 1 [] (fun ds _ => ds) 1 m_l_rooted := by
  obtain ⟨fd, F⟩ := T.sy.def_ 46 (d := d_l_rooted) rfl
  exact jf_mkN F fs_l_rooted sc_l_rooted (T.glo 65) ⟨rfl, by decide, by decide⟩ (fun _ _ _ _ _ _ us hl => match us, hl with | [_], _ => rfl) (fun X W d => body_l_rooted T d)
theorem body_l_root (T : Tp fa fn bx K mg) {X : Cx} {W : WX} (d : JD P w K mg base nm_l_root (defScope (top 53)) vw_l_root 1 X W) : JB X W (defBody (top 53)) t_l_root :=
  jb_cons (js_par d.toJC 2 3 rfl rfl (by decide) (d.toJC.sC.loc 2 (mm 2) _ rfl) (d.toJC.sC.loc 3 (mm 3) _ rfl) (ja_cons (je_call d.toJC (Tj_l_rooted T) (by decide) (mm 0) (ja_cons (je_ix (jv d.toJC 1 (mm 1) rfl) (je_int)) (ja_nil))) (ja_cons (je_call d.toJC (Tj_l_rooted T) (by decide) (mm 0) (ja_cons (je_ix (jv d.toJC 1 (mm 1) rfl) (je_int)) (ja_nil))) (ja_nil))) (sw2 d.toJC.kd (by rw [d.toJC.ss]; exact (d.toJC.sC.loc 2 (mm 2) _ rfl)) (by rw [d.toJC.ss]; exact (d.toJC.sC.loc 3 (mm 3) _ rfl)) rfl (by decide +kernel) rfl rfl rfl)) (jb_cons (js_if (jt_w (jw_and (jt_cmp (opD_eq d.toJC.room) (je_op opD_mul (jv d.toJC 2 (mm 2) rfl) (jv d.toJC 2 (mm 2) rfl)) (je_ix (jv d.toJC 1 (mm 1) rfl) (je_int)) rfl) (jw_and1 (jt_cmp (opD_eq d.toJC.room) (je_op opD_mul (jv d.toJC 3 (mm 3) rfl) (jv d.toJC 3 (mm 3) rfl)) (je_ix (jv d.toJC 1 (mm 1) rfl) (je_int)) rfl)))) (jb_one (js_ret (je_tup (ja_cons (je_call d.toJC (Tj_l_low T) (by decide) (mm 1) (ja_cons (je_op opD_add (je_op opD_mul (jv d.toJC 0 (mm 0) rfl) (jv d.toJC 3 (mm 3) rfl)) (jv d.toJC 2 (mm 2) rfl)) (ja_cons (jv d.toJC 3 (mm 3) rfl) (ja_nil)))) (ja_cons (je_int) (ja_cons (je_tup (ja_cons (je_int) (ja_cons (je_int) (ja_nil)))) (ja_nil))))))) (jb_nil)) (jb_one (js_ret (je_tup (ja_cons (je_tup (ja_cons (jv d.toJC 0 (mm 0) rfl) (ja_cons (je_int) (ja_nil)))) (ja_cons (je_int) (ja_cons (jv d.toJC 1 (mm 1) rfl) (ja_nil))))))))
theorem Tj_l_root (T : Tp fa fn bx K mg) : JF P w K mg base "_law_root" 2 [] (fun ds _ => ds) 2 m_l_root := by
  obtain ⟨fd, F⟩ := T.sy.def_ 47 (d := d_l_root) rfl
  exact jf_mkN F fs_l_root sc_l_root (T.glo 64) ⟨rfl, by decide, by decide⟩ (fun _ _ _ _ _ _ us hl => match us, hl with | [_, _], _ => rfl) (fun X W d => body_l_root T d)
theorem body_l_product (T : Tp fa fn bx K mg) {X : Cx} {W : WX} (d : JD P w K mg base nm_l_product (defScope (top 54)) vw_l_product 1 X W) : JB X W (defBody (top 54)) t_l_product :=
  jb_one (js_ret (je_call d.toJC (Tj_l_low T) (by decide) (mm 0) (ja_cons (je_op opD_mul (je_ix (jv d.toJC 0 (mm 0) rfl) (je_int)) (je_ix (jv d.toJC 1 (mm 1) rfl) (je_int))) (ja_cons (je_op opD_mul (je_ix (jv d.toJC 0 (mm 0) rfl) (je_int)) (je_ix (jv d.toJC 1 (mm 1) rfl) (je_int))) (ja_nil)))))
theorem Tj_l_product (T : Tp fa fn bx K mg) : JF P w K mg base "_law_product" 2 [] (fun ds _ => ds) 2 m_l_product := by
  obtain ⟨fd, F⟩ := T.sy.def_ 48 (d := d_l_product) rfl
  exact jf_mkN F fs_l_product sc_l_product (T.glo 63) ⟨rfl, by decide, by decide⟩ (fun _ _ _ _ _ _ us hl => match us, hl with | [_, _], _ => rfl) (fun X W d => body_l_product T d)
theorem body_l_contrary (T : Tp fa fn bx K mg) {X : Cx} {W : WX} (d : JD P w K mg base nm_l_contrary (defScope (top 55)) vw_l_contrary 0 X W) : JB X W (defBody (top 55)) t_l_contrary :=
  jb_one (js_ret (je_tup (ja_cons (je_op opD_sub (je_int) (je_ix (jv d.toJC 0 (mm 0) rfl) (je_int))) (ja_cons (je_ix (jv d.toJC 0 (mm 0) rfl) (je_int)) (ja_nil)))))
theorem Tj_l_contrary (T : Tp fa fn bx K mg) : JF P w K mg base "_law_contrary" 1 [] (fun ds _ => ds) 1 m_l_contrary := by
  obtain ⟨fd, F⟩ := T.sy.def_ 49 (d := d_l_contrary) rfl
  exact jf_mkN F fs_l_contrary sc_l_contrary (T.glo 62) ⟨rfl, by decide, by decide⟩ (fun _ _ _ _ _ _ us hl => match us, hl with | [_], _ => rfl) (fun X W d => body_l_contrary T d)
theorem body_l_are_fitting (T : Tp fa fn bx K mg) {X : Cx} {W : WX} (d : JD P w K mg base nm_l_are_fitting (defScope (top 62)) vw_l_are_fitting 1 X W) : JB X W (defBody (top 62)) t_l_are_fitting :=
  jb_cons (js_set d.toJC 3 rfl (.inl (d.toJC.sC.loc 3 (mm 3) _ rfl)) (je_lstR (ja_nil))) (jb_cons (js_for d (ji_val (je_tup (ja_cons (jv d.toJC 0 (mm 0) rfl) (ja_cons (jv d.toJC 1 (mm 1) rfl) (ja_cons (jv d.toJC 2 (mm 2) rfl) (ja_nil)))))) (jg_name d.toJC 4 rfl (.inl (d.toJC.sC.loc 4 (mm 4) _ rfl))) (jb_cons (js_set d.toJC 5 rfl (.inl (d.toJC.sC.loc 5 (mm 5) _ rfl)) (je_op opD_pow (je_int) (je_int))) (jb_cons (js_set d.toJC 6 rfl (.inl (d.toJC.sC.loc 6 (mm 6) _ rfl)) (je_op opD_div (je_op opD_mul (je_ix (je_ix (jv d.toJC 4 (mm 4) rfl) (je_int)) (je_int)) (jv d.toJC 5 (mm 5) rfl)) (je_ix (je_ix (jv d.toJC 4 (mm 4) rfl) (je_int)) (je_int)))) (jb_cons (js_set d.toJC 7 rfl (.inl (d.toJC.sC.loc 7 (mm 7) _ rfl)) (je_op opD_div (je_op opD_mul (je_op opD_mul (je_ix (je_ix (jv d.toJC 4 (mm 4) rfl) (je_int)) (je_int)) (jv d.toJC 5 (mm 5) rfl)) (jv d.toJC 5 (mm 5) rfl)) (je_ix (je_ix (jv d.toJC 4 (mm 4) rfl) (je_int)) (je_int)))) (jb_one (js_expr (je_append (jv d.toJC 3 (mm 3) rfl) (ja_cons (je_op opD_add (jv d.toJC 6 (mm 6) rfl) (je_op opD_mul (je_ix (jv d.toJC 4 (mm 4) rfl) (je_int)) (je_call d.toJC (Tj_l_rooted T) (by decide) (mm 0) (ja_cons (jv d.toJC 7 (mm 7) rfl) (ja_nil))))) (ja_nil))))))))) (jb_one (js_ret (je_cmp opD_le (je_ix (jv d.toJC 3 (mm 3) rfl) (je_int)) (je_op opD_add (je_op opD_add (je_ix (jv d.toJC 3 (mm 3) rfl) (je_int)) (je_ix (jv d.toJC 3 (mm 3) rfl) (je_int))) (je_int)) rfl))))
theorem Tj_l_are_fitting (T : Tp fa fn bx K mg) : JF P w K mg base "_law_are_fitting" 3 [] (fun ds _ => ds) 2 m_l_are_fitting := by
  obtain ⟨fd, F⟩ := T.sy.def_ 50 (d := d_l_are_fitting) rfl
  exact jf_mkN F fs_l_are_fitting sc_l_are_fitting (T.glo 61) ⟨rfl, by decide, by decide⟩ (fun _ _ _ _ _ _ us hl => match us, hl with | [_, _, _], _ => rfl) (fun X W d => body_l_are_fitting T d)
theorem body_l_places_right (T : Tp fa fn bx K mg) {X : Cx} {W : WX} (d : JD P w K mg base nm_l_places_right (defScope (top 63)) vw_l_places_right 7 X W) : JB X W (defBody (top 63)) t_l_places_right :=
  jb_cons (js_set d.toJC 3 rfl (.inl (d.toJC.sC.loc 3 (mm 3) _ rfl)) (je_call d.toJC (Tj_apart T) (by decide) (mm 0) (ja_cons (jv d.toJC 0 (mm 0) rfl) (ja_cons (jv d.toJC 1 (mm 1) rfl) (ja_nil))))) (jb_cons (js_for d (ji_val (jv d.toJC 2 (mm 2) rfl)) (jg_name d.toJC 4 rfl (.inl (d.toJC.sC.loc 4 (mm 4) _ rfl))) (jb_cons (js_if (jt_cmp (opD_ne d.toJC.room) (je_cmp (opD_eq d.toJC.room) (je_call d.toJC (Tj_distance T) (by decide) (mm 1) (ja_cons (jv d.toJC 0 (mm 0) rfl) (ja_cons (jv d.toJC 4 (mm 4) rfl) (ja_nil)))) (je_tup (ja_cons (je_tup (ja_cons (je_int) (ja_cons (je_int) (ja_nil)))) (ja_cons (je_int) (ja_cons (je_tup (ja_cons (je_int) (ja_cons (je_int) (ja_nil)))) (ja_nil))))) rfl) (je_cmp (opD_eq d.toJC.room) (je_call d.toJC (Tj_faces_at T) (by decide) (mm 2) (ja_cons (jv d.toJC 0 (mm 0) rfl) (ja_cons (jv d.toJC 4 (mm 4) rfl) (ja_nil)))) (je_tup (ja_nil)) rfl) rfl) (jb_one (js_ret (je_bl))) (jb_nil)) (jb_cons (js_if (jt_not (jt_tru (je_call d.toJC (Tj_l_are_fitting T) (by decide) (mm 3) (ja_cons (jv d.toJC 3 (mm 3) rfl) (ja_cons (je_call d.toJC (Tj_distance T) (by decide) (mm 1) (ja_cons (jv d.toJC 0 (mm 0) rfl) (ja_cons (jv d.toJC 4 (mm 4) rfl) (ja_nil)))) (ja_cons (je_call d.toJC (Tj_distance T) (by decide) (mm 1) (ja_cons (jv d.toJC 1 (mm 1) rfl) (ja_cons (jv d.toJC 4 (mm 4) rfl) (ja_nil)))) (ja_nil))))))) (jb_one (js_ret (je_bl))) (jb_nil)) (jb_one (js_for d (ji_val (jv d.toJC 2 (mm 2) rfl)) (jg_name d.toJC 5 rfl (.inl (d.toJC.sC.loc 5 (mm 5) _ rfl))) (jb_cons (js_set d.toJC 6 rfl (.inl (d.toJC.sC.loc 6 (mm 6) _ rfl)) (je_call d.toJC (Tj_l_sum T) (by decide) (mm 4) (ja_cons (je_ix (jv d.toJC 4 (mm 4) rfl) (je_int)) (ja_cons (je_call d.toJC (Tj_l_contrary T) (by decide) (mm 5) (ja_cons (je_ix (jv d.toJC 5 (mm 5) rfl) (je_int)) (ja_nil))) (ja_nil))))) (jb_cons (js_set d.toJC 7 rfl (.inl (d.toJC.sC.loc 7 (mm 7) _ rfl)) (je_call d.toJC (Tj_l_sum T) (by decide) (mm 4) (ja_cons (je_ix (jv d.toJC 4 (mm 4) rfl) (je_int)) (ja_cons (je_call d.toJC (Tj_l_contrary T) (by decide) (mm 5) (ja_cons (je_ix (jv d.toJC 5 (mm 5) rfl) (je_int)) (ja_nil))) (ja_nil))))) (jb_cons (js_set d.toJC 8 rfl (.inl (d.toJC.sC.loc 8 (mm 8) _ rfl)) (je_call d.toJC (Tj_l_root T) (by decide) (mm 6) (ja_cons (je_int) (ja_cons (je_call d.toJC (Tj_l_sum T) (by decide) (mm 4) (ja_cons (je_call d.toJC (Tj_l_product T) (by decide) (mm 7) (ja_cons (jv d.toJC 6 (mm 6) rfl) (ja_cons (jv d.toJC 6 (mm 6) rfl) (ja_nil)))) (ja_cons (je_call d.toJC (Tj_l_product T) (by decide) (mm 7) (ja_cons (jv d.toJC 7 (mm 7) rfl) (ja_cons (jv d.toJC 7 (mm 7) rfl) (ja_nil)))) (ja_nil)))) (ja_nil))))) (jb_one (js_if (jt_not (jt_tru (je_call d.toJC (Tj_l_are_fitting T) (by decide) (mm 3) (ja_cons (je_call d.toJC (Tj_distance T) (by decide) (mm 1) (ja_cons (jv d.toJC 0 (mm 0) rfl) (ja_cons (jv d.toJC 4 (mm 4) rfl) (ja_nil)))) (ja_cons (je_call d.toJC (Tj_distance T) (by decide) (mm 1) (ja_cons (jv d.toJC 0 (mm 0) rfl) (ja_cons (jv d.toJC 5 (mm 5) rfl) (ja_nil)))) (ja_cons (jv d.toJC 8 (mm 8) rfl) (ja_nil))))))) (jb_one (js_ret (je_bl))) (jb_nil))))))))))) (jb_one (js_ret (je_bl))))
theorem Tj_l_places_right (T : Tp fa fn bx K mg) : JF P w K mg base "_law_places_right" 3 [] (fun ds _ => ds) 8 m_l_places_right := by
  obtain ⟨fd, F⟩ := T.sy.def_ 51 (d := d_l_places_right) rfl
  exact jf_mkN F fs_l_places_right sc_l_places_right (T.glo 8) ⟨rfl, by decide, by decide⟩ (fun _ _ _ _ _ _ us hl => match us, hl with | [_, _, _], _ => rfl) (fun X W d => body_l_places_right T d)
theorem body_law (T : Tp fa fn bx K mg) {X : Cx} {W : WX} (d : JD P w K mg base nm_law (defScope (top 64)) vw_law 8 X W) : JB X W (defBody (top 64)) t_law :=
  jb_cons (js_for d (ji_r1 d.toJC (mm 0) (T.free 0) (ja_cons (je_callB d.toJC (cd_max d.toJC.calm) (mm 1) (T.free 1) (by decide +kernel) (ja_cons (je_int) (ja_cons (je_callB d.toJC (cd_min d.toJC.calm) (mm 2) (T.free 2) (by decide +kernel) (ja_cons (je_int) (ja_cons (je_callB d.toJC cd_len (mm 3) (T.free 3) (by decide +kernel) (ja_cons (jv d.toJC 0 (mm 0) rfl) (ja_nil))) (ja_nil)))) (ja_nil)))) (ja_nil))) (jg_name d.toJC 1 rfl (.inl (d.toJC.sC.loc 1 (mm 1) _ rfl))) (jb_cons (js_set d.toJC 2 rfl (.inr ⟨d.toJC.sC.cel 2 (mm 0) _ rfl, d.fn⟩) (je_call d.toJC (Tj_l_bag T) (by decide) (mm 4) (ja_cons (jv d.toJC 0 (mm 0) rfl) (ja_cons (jv d.toJC 1 (mm 1) rfl) (ja_nil))))) (jb_cons (js_set d.toJC 3 rfl (.inr ⟨d.toJC.sC.cel 3 (mm 1) _ rfl, d.fn⟩) (je_call d.toJC (Tj_l_thing T) (by decide) (mm 5) (ja_cons (jv d.toJC 2 (mm 2) rfl) (ja_cons (je_int) (ja_cons (je_call d.toJC (Tj_l_take T) (by decide) (mm 6) (ja_cons (jv d.toJC 2 (mm 2) rfl) (ja_cons (je_int) (ja_nil)))) (ja_nil)))))) (jb_cons (js_set d.toJC 4 rfl (.inr ⟨d.toJC.sC.cel 4 (mm 2) _ rfl, d.fn⟩) (je_call d.toJC (Tj_l_thing T) (by decide) (mm 5) (ja_cons (jv d.toJC 2 (mm 2) rfl) (ja_cons (je_int) (ja_cons (je_call d.toJC (Tj_l_take T) (by decide) (mm 6) (ja_cons (jv d.toJC 2 (mm 2) rfl) (ja_cons (je_int) (ja_nil)))) (ja_nil)))))) (jb_cons (js_setLc d.toJC 5 rfl (d.toJC.sC.loc 5 (mm 2) _ rfl) rfl (by decide +kernel) (own := [(".0", 11), ("_law_turn", 12)]) (vw2 := vb0_law) (by decide +kernel) (scOf (by decide +kernel)) (by decide) (ji_r1 d.toJC (mm 0) (T.free 0) (ja_cons (je_int) (ja_nil))) (fun _ c0 => jg_name c0 12 rfl (.inl (c0.sC.loc 12 (mm 1) _ rfl))) (fun _ c0 => jts_nil) (fun _ c0 => je_call c0 (Tj_l_place T) (by decide) (mm 0) (ja_cons (jv c0 2 (mm 0) rfl) (ja_cons (je_int) (ja_cons (je_lst (ja_cons (jv c0 3 (mm 1) rfl) (ja_cons (jv c0 4 (mm 2) rfl) (ja_nil)))) (ja_nil))))) (by walk_at "mo" <;> first | with_reducible exact (Tj_l_place (P := P) (w := w) (base := base) T).mo) (by walk_at "mo" <;> first | with_reducible exact (Tj_l_place (P := P) (w := w) (base := base) T).mo)) (jb_cons (js_if (jt_not (jt_tru (je_call d.toJC (Tj_l_places_right T) (by decide) (mm 7) (ja_cons (jv d.toJC 3 (mm 3) rfl) (ja_cons (jv d.toJC 4 (mm 4) rfl) (ja_cons (jv d.toJC 5 (mm 5) rfl) (ja_nil))))))) (jb_one (js_ret (je_bl))) (jb_nil)) (jb_cons (js_set d.toJC 6 rfl (.inl (d.toJC.sC.loc 6 (mm 3) _ rfl)) (je_tup (ja_cons (je_op opD_sub (je_call d.toJC (Tj_l_take T) (by decide) (mm 6) (ja_cons (jv d.toJC 2 (mm 2) rfl) (ja_cons (je_int) (ja_nil)))) (je_int)) (ja_cons (je_op opD_sub (je_call d.toJC (Tj_l_take T) (by decide) (mm 6) (ja_cons (jv d.toJC 2 (mm 2) rfl) (ja_cons (je_int) (ja_nil)))) (je_int)) (ja_nil))))) (jb_one (js_for d (ji_r1 d.toJC (mm 0) (T.free 0) (ja_cons (je_int) (ja_nil))) (jg_name d.toJC 7 rfl (.inl (d.toJC.sC.loc 7 (mm 4) _ rfl))) (jb_cons (js_par d.toJC 8 9 rfl rfl (by decide) (d.toJC.sC.loc 8 (mm 5) _ rfl) (d.toJC.sC.loc 9 (mm 6) _ rfl) (ja_cons (je_call d.toJC (Tj_l_thing_changed T) (by decide) (mm 8) (ja_cons (jv d.toJC 7 (mm 7) rfl) (ja_cons (jv d.toJC 3 (mm 3) rfl) (ja_cons (jv d.toJC 6 (mm 6) rfl) (ja_nil))))) (ja_cons (je_call d.toJC (Tj_l_thing_changed T) (by decide) (mm 8) (ja_cons (jv d.toJC 7 (mm 7) rfl) (ja_cons (jv d.toJC 4 (mm 4) rfl) (ja_cons (jv d.toJC 6 (mm 6) rfl) (ja_nil))))) (ja_nil))) (sw2 d.toJC.kd (by rw [d.toJC.ss]; exact (d.toJC.sC.loc 8 (mm 5) _ rfl)) (by rw [d.toJC.ss]; exact (d.toJC.sC.loc 9 (mm 6) _ rfl)) rfl (by decide +kernel) rfl rfl rfl)) (jb_cons (js_if (jt_cmp (opD_ne d.toJC.room) (je_call d.toJC (Tj_apart T) (by decide) (mm 9) (ja_cons (jv d.toJC 8 (mm 8) rfl) (ja_cons (jv d.toJC 9 (mm 9) rfl) (ja_nil)))) (je_call d.toJC (Tj_apart T) (by decide) (mm 9) (ja_cons (jv d.toJC 3 (mm 3) rfl) (ja_cons (jv d.toJC 4 (mm 4) rfl) (ja_nil)))) rfl) (jb_one (js_ret (je_bl))) (jb_nil)) (jb_one (js_for d (ji_val (jv d.toJC 5 (mm 5) rfl)) (jg_name d.toJC 10 rfl (.inl (d.toJC.sC.loc 10 (mm 7) _ rfl))) (jb_one (js_if (jt_cmp (opD_ne d.toJC.room) (je_call d.toJC (Tj_distance T) (by decide) (mm 10) (ja_cons (jv d.toJC 8 (mm 8) rfl) (ja_cons (je_call d.toJC (Tj_l_changed T) (by decide) (mm 11) (ja_cons (jv d.toJC 7 (mm 7) rfl) (ja_cons (jv d.toJC 10 (mm 10) rfl) (ja_cons (jv d.toJC 6 (mm 6) rfl) (ja_nil))))) (ja_nil)))) (je_call d.toJC (Tj_distance T) (by decide) (mm 10) (ja_cons (jv d.toJC 3 (mm 3) rfl) (ja_cons (jv d.toJC 10 (mm 10) rfl) (ja_nil)))) rfl) (jb_one (js_ret (je_bl))) (jb_nil)))))))))))))))) (jb_one (js_ret (je_bl)))
theorem ok_law (T : Tp fa fn bx K mg) {f : Addr} {fd : FuncData} (F : FunD K d_law.name d_law.qual d_law.params d_law.body d_law.scope (d_law.dvs K) (d_law.kws K) f fd) : FnOk P w K mg base (L2.CX P w) 9 f fd ["_law_script"] (LSp K 1 m_law) :=
  ok_mkN F fs_law sc_law fun X W d => body_law T d
theorem mo_law {P : Program} {w : World} {base : Heap} (T : Tp fa fn bx K mg) : MoF m_law := moFn (moS_of (k := 8) (P := P) (w := w) (base := base) fs_law sc_law ⟨rfl, by decide, by decide⟩ fun X W d => body_law T d)
end
end Ld.K18

namespace Ld.K18
open PySem PySem.Spec PyProof.Rows L2 Bl Lb Rl Rs
local macro_rules | `(tactic| walk_at "bl0") => `(tactic| (with_reducible (first
  | (refine Go.gVr ?_; first | refine Go.vr0 ?_ | refine Go.vr1 ?_ | refine Go.vr2 ?_ | refine Go.vr3 ?_ | refine Go.vr4 ?_ | refine Go.vr5 ?_ | refine Go.vr6 ?_ | refine Go.vr7 ?_ | refine Go.vr8 ?_ | refine Go.vr9 ?_ | refine Go.vr10 ?_ | refine Go.vr11 ?_ | refine Go.vr12 ?_ | refine Go.vr13 ?_ | refine Go.vr14 ?_ | refine Go.vr15 ?_ | refine Go.vr16 ?_ | refine Go.vr17 ?_ | refine Go.vr18 ?_ | refine Go.vr19 ?_ | refine Go.vr20 ?_ | refine Go.vr21 ?_ | refine Go.vr22 ?_ | refine Go.vr23 ?_)
  | refine Go.seq ?_
  | refine Go.nx' ?_
  | refine Go.ret ?_
  | refine Go.if' ?_
  | refine Go.asg ?_
  | refine Go.par ?_
  | refine Go.drop ?_
  | refine Go.brk ?_
  | refine Go.cnt ?_
  | refine Go.raise ?_
  | refine Go.thru ?_
  | refine Go.tryAs ?_
  | refine Go.for' ?_
  | refine Go.sub ?_
  | refine Go.retN ?_
  | refine Go.par_cons ?_
  | refine Go.par_nil ?_
  | refine Go.cn' ?_
  | refine Go.two ?_
  | refine Go.nil ?_
  | refine Go.cons ?_
  | refine Go.tup ?_
  | refine Go.lst ?_
  | refine Go.lstR ?_
  | refine Go.tbl' ?_
  | refine Go.tblK' ?_
  | refine Go.ttr' ?_
  | refine Go.truB ?_
  | refine Go.truI ?_
  | refine Go.truN ?_
  | refine Go.and' ?_
  | refine Go.or' ?_
  | refine Go.not' ?_
  | refine Go.vOf' ?_
  | refine Go.vNot' ?_
  | refine Go.eIf' ?_
  | refine Go.ifT ?_
  | refine Go.ifF ?_
  | refine Go.ifN ?_
  | refine Go.add ?_
  | refine Go.sub' ?_
  | refine Go.lt ?_
  | refine Go.le ?_
  | refine Go.gt ?_
  | refine Go.ge ?_
  | refine Go.eqI ?_
  | refine Go.neI ?_
  | refine Go.is' ?_
  | refine Go.isNot' ?_
  | refine Go.chain ?_
  | refine Go.dB' ?_
  | refine Go.neg ?_
  | refine Go.neg' ?_
  | refine Go.abs' ?_
  | refine Go.lenT ?_
  | refine Go.lenL ?_
  | refine Go.max' ?_
  | refine Go.min' ?_
  | refine Go.intI ?_
  | refine Go.intB ?_
  | refine Go.tupL ?_
  | refine Go.tupT ?_
  | refine Go.isi ?_
  | refine Go.call ?_
  | refine Go.iVal' ?_
  | refine Go.iValT ?_
  | refine Go.iValL ?_
  | refine Go.r1 ?_
  | refine Go.r2 ?_
  | refine Go.star ?_
  | refine Go.l_cons ?_
  | refine Go.l_nil ?_
  | refine Go.enum' ?_
  | refine Go.rev' ?_
  | refine Go.zip' ?_
  | refine Go.wipe_nil ?_
  | refine Go.wipe_cons ?_
  | refine Go.iadd ?_
  | refine Go.sl ?_
  | refine Go.oN ?_
  | refine Go.oS ?_
  | refine Go.osK' ?_
  | refine Go.getL ?_
  | refine Go.lc ?_
  | refine Go.lcR ?_
  | refine Go.lg_nil ?_
  | refine Go.lg_cons ?_
  | refine Go.yes ?_
  | refine Go.for_nil ?_
  | refine Go.for_cons ?_
  | refine Go.revT ?_
  | refine Go.revL ?_
  | refine Go.zipT ?_
  | refine Go.zipL ?_
  | refine Go.tupK' rfl ?_
  | refine Go.lstK' rfl ?_
  | refine Go.callK' rfl rfl ?_
  | refine Go.lcL rfl ?_
  | refine Go.getLL' rfl ?_
  | refine Go.addT rfl ?_
  | (refine Go.gAsg ?_; first | refine Go.set0 ?_ | refine Go.set1 ?_ | refine Go.set2 ?_ | refine Go.set3 ?_ | refine Go.set4 ?_ | refine Go.set5 ?_ | refine Go.set6 ?_ | refine Go.set7 ?_ | refine Go.set8 ?_ | refine Go.set9 ?_ | refine Go.set10 ?_ | refine Go.set11 ?_ | refine Go.set12 ?_ | refine Go.set13 ?_ | refine Go.set14 ?_ | refine Go.set15 ?_ | refine Go.set16 ?_ | refine Go.set17 ?_ | refine Go.set18 ?_ | refine Go.set19 ?_ | refine Go.set20 ?_ | refine Go.set21 ?_ | refine Go.set22 ?_ | refine Go.set23 ?_ | refine Go.tp_cons ?_ | refine Go.tp_nil ?_)
  | (refine Go.gIxT ?_; first | refine Go.ixT0 ?_ | refine Go.ixT1 ?_ | refine Go.ixT2 ?_ | refine Go.ixT3 ?_ | refine Go.ixT4 ?_ | refine Go.ixT5 ?_ | refine Go.ixT6 ?_ | refine Go.ixT7 ?_)
  | (refine Go.gIxL ?_; first | refine Go.ixL0 ?_ | refine Go.ixL1 ?_ | refine Go.ixL2 ?_ | refine Go.ixL3 ?_ | refine Go.ixL4 ?_ | refine Go.ixL5 ?_ | refine Go.ixL6 ?_ | refine Go.ixL7 ?_)
  | (refine Go.gAug ?_; first | refine Go.aug0 ?_ | refine Go.aug1 ?_ | refine Go.aug2 ?_ | refine Go.aug3 ?_ | refine Go.aug4 ?_ | refine Go.aug5 ?_ | refine Go.aug6 ?_ | refine Go.aug7 ?_ | refine Go.aug8 ?_ | refine Go.aug9 ?_ | refine Go.aug10 ?_ | refine Go.aug11 ?_ | refine Go.aug12 ?_ | refine Go.aug13 ?_ | refine Go.aug14 ?_ | refine Go.aug15 ?_ | refine Go.aug16 ?_ | refine Go.aug17 ?_ | refine Go.aug18 ?_ | refine Go.aug19 ?_ | refine Go.aug20 ?_ | refine Go.aug21 ?_ | refine Go.aug22 ?_ | refine Go.aug23 ?_)
  | (refine Go.gStar ?_; first | refine Go.startup0 ?_ | refine Go.starlst0 ?_ | refine Go.startup1 ?_ | refine Go.starlst1 ?_ | refine Go.startup2 ?_ | refine Go.starlst2 ?_ | refine Go.startup3 ?_ | refine Go.starlst3 ?_ | refine Go.startup4 ?_ | refine Go.starlst4 ?_ | refine Go.startup_2 ?_ | refine Go.starlst_2 ?_ | refine Go.startup_3 ?_ | refine Go.starlst_3 ?_ | refine Go.startup_4 ?_ | refine Go.starlst_4 ?_)
  | refine Go.slfT1 ?_ | refine Go.sltT1 ?_ | refine Go.slfL1 ?_ | refine Go.sltL1 ?_ | refine Go.slfT2 ?_ | refine Go.sltT2 ?_ | refine Go.slfL2 ?_ | refine Go.sltL2 ?_ | refine Go.slfT3 ?_ | refine Go.sltT3 ?_ | refine Go.slfL3 ?_ | refine Go.sltL3 ?_ | refine Go.slfT4 ?_ | refine Go.sltT4 ?_ | refine Go.slfL4 ?_ | refine Go.sltL4 ?_
  | (refine Go.gUns ?_; first | refine Go.uns0 ?_ | refine Go.uns1 ?_ | refine Go.uns2 ?_ | refine Go.uns3 ?_ | refine Go.uns4 ?_ | refine Go.uns5 ?_ | refine Go.uns6 ?_ | refine Go.uns7 ?_ | refine Go.uns8 ?_ | refine Go.uns9 ?_ | refine Go.uns10 ?_ | refine Go.uns11 ?_ | refine Go.uns12 ?_ | refine Go.uns13 ?_ | refine Go.uns14 ?_ | refine Go.uns15 ?_ | refine Go.uns16 ?_ | refine Go.uns17 ?_ | refine Go.uns18 ?_ | refine Go.uns19 ?_ | refine Go.uns20 ?_ | refine Go.uns21 ?_ | refine Go.uns22 ?_ | refine Go.uns23 ?_)
  | refine Go.entup0 ?_ | refine Go.enlst0 ?_ | refine Go.entup1 ?_ | refine Go.enlst1 ?_ | refine Go.entup2 ?_ | refine Go.enlst2 ?_ | refine Go.entup3 ?_ | refine Go.enlst3 ?_ | refine Go.entup4 ?_ | refine Go.enlst4 ?_ | refine Go.entup5 ?_ | refine Go.enlst5 ?_ | refine Go.entup6 ?_ | refine Go.enlst6 ?_)))
local macro_rules | `(tactic| walk_at "bl1") => `(tactic| first | ((with_reducible refine Go.gEqS ?_); (first | refine Go.eqS (b := true) ⟨rfl, by decide +kernel⟩ ⟨rfl, by decide +kernel⟩ rfl ?_ | refine Go.eqS (b := false) ⟨rfl, by decide +kernel⟩ ⟨rfl, by decide +kernel⟩ rfl ?_)) | ((with_reducible refine Go.gNeS ?_); (first | refine Go.neS (b := true) ⟨rfl, by decide +kernel⟩ ⟨rfl, by decide +kernel⟩ rfl ?_ | refine Go.neS (b := false) ⟨rfl, by decide +kernel⟩ ⟨rfl, by decide +kernel⟩ rfl ?_)) | walk_at "bl0" | ((with_reducible refine Go.gAll ?_); (refine Go.allB (by rfl) ?_)) | ((with_reducible refine Go.gIxT ?_); (refine Go.ixT (by rfl) ?_)) | ((with_reducible refine Go.gIxL ?_); (refine Go.ixL (by rfl) ?_)))
local macro_rules | `(tactic| walk_at "bl") => `(tactic| (repeat walk_at "bl1"))
local macro_rules | `(tactic| walk_at "bl0") => `(tactic| (with_reducible (first | refine Go.zipS' ?_ | refine Go.zipR' ?_ | refine Go.seqT ?_ | refine Go.seqL ?_ | refine Go.zipST rfl ?_ | refine Go.zipSL rfl ?_ | refine Go.for_zc ?_ | refine Go.for_zn ?_ | refine Go.lg_zc ?_ | refine Go.lg_zn ?_)))
theorem TIn_mono {m n : Nat} {t : Th} (h : TIn m t) (l : m ≤ n) : TIn n t := by
  cases t with
  | spot p => exact ⟨Nat.le_trans h.1 l, Nat.le_trans h.2 l⟩
  | cord p q => exact ⟨⟨Nat.le_trans h.1.1 l, Nat.le_trans h.1.2 l⟩, ⟨Nat.le_trans h.2.1 l, Nat.le_trans h.2.2 l⟩⟩
  | bow c p q => exact ⟨⟨Nat.le_trans h.1.1 l, Nat.le_trans h.1.2 l⟩, ⟨Nat.le_trans h.2.1.1 l, Nat.le_trans h.2.1.2 l⟩, ⟨Nat.le_trans h.2.2.1 l, Nat.le_trans h.2.2.2 l⟩⟩
theorem good_wy {w : Nat} (hw : w < 5) {t : P2} (t1 : t.1.natAbs ≤ 50) (t2 : t.2.natAbs ≤ 50) {T : Th} (hT : GoodTh T) (hi : TIn 105 T) : GoodTh (wyT w t T) := by
  rcases (by omega : w = 0 ∨ w = 1 ∨ w = 2 ∨ w = 3 ∨ w = 4) with h | h | h | h | h <;> subst h
  · have b : ∀ {p : P2}, PIn 105 p → Bd (mvP (.shift t) p) := fun {p} h => ⟨by have := h.1; show (p.1 + t.1).natAbs ≤ 1000; omega, by have := h.2; show (p.2 + t.2).natAbs ≤ 1000; omega⟩
    refine good_shift hT fun p hp => ?_
    cases T with
    | spot q =>
      simp only [ptsOf, List.mem_cons, List.not_mem_nil, or_false] at hp
      subst hp; exact b hi
    | cord q r =>
      simp only [ptsOf, List.mem_cons, List.not_mem_nil, or_false] at hp
      rcases hp with h | h <;> subst h
      · exact b hi.1
      · exact b hi.2
    | bow c q r =>
      simp only [ptsOf, List.mem_cons, List.not_mem_nil, or_false] at hp
      rcases hp with h | h | h <;> subst h
      · exact b hi.1
      · exact b hi.2.1
      · exact b hi.2.2
  · exact good_turn hT
  · exact good_turn (good_turn hT)
  · exact good_turn (good_turn (good_turn hT))
  · exact good_mirror hT
theorem ap_wy {w : Nat} (hw : w < 5) {t : P2} {A B : Th} (hA : GoodTh A) (hB : GoodTh B) (hA' : GoodTh (wyT w t A)) (hB' : GoodTh (wyT w t B)) : apR (wyT w t A) (wyT w t B) = apR A B := by
  rcases (by omega : w = 0 ∨ w = 1 ∨ w = 2 ∨ w = 3 ∨ w = 4) with h | h | h | h | h <;> subst h
  · exact ap_two hA hB hA' hB' (inv_shift t A) (inv_shift t B)
  · exact ap_turn hA hB
  · exact (ap_turn (good_turn hA) (good_turn hB)).trans (ap_turn hA hB)
  · exact (ap_turn (good_turn (good_turn hA)) (good_turn (good_turn hB))).trans ((ap_turn (good_turn hA) (good_turn hB)).trans (ap_turn hA hB))
  · exact ap_two hA hB hA' hB' (inv_mirror A) (inv_mirror B)
theorem dist_wy {w : Nat} (hw : w < 5) {t : P2} {A : Th} (hA : GoodTh A) (hA' : GoodTh (wyT w t A)) (P : R2) : distR (wyT w t A) (wyR w t P) = distR A P := by
  rcases (by omega : w = 0 ∨ w = 1 ∨ w = 2 ∨ w = 3 ∨ w = 4) with h | h | h | h | h <;> subst h
  · exact dist_two hA hA' (inv_shift t A) (inv_shiftR t P)
  · exact dist_turn hA P
  · exact (dist_turn (good_turn hA) (mvR .turn P)).trans (dist_turn hA P)
  · exact (dist_turn (good_turn (good_turn hA)) (mvR .turn (mvR .turn P))).trans ((dist_turn (good_turn hA) (mvR .turn P)).trans (dist_turn hA P))
  · exact dist_two hA hA' (inv_mirror A) (inv_mirrorR P)
theorem pr_wy {w : Nat} (hw : w < 5) {t : P2} (t1 : t.1.natAbs ≤ 50) (t2 : t.2.natAbs ≤ 50) {P : R2} (hP : PR 40 P) : PR 90 (wyR w t P) := by
  have s : ∀ {i : Int}, i.natAbs ≤ 50 → sr 40 ((i : Int) : Rat) := fun {i} h => sr.int ((show sm 6 i by unfold sm; omega).mono (by decide)) (by decide)
  rcases (by omega : w = 0 ∨ w = 1 ∨ w = 2 ∨ w = 3 ∨ w = 4) with h | h | h | h | h <;> subst h
  · exact ⟨(hP.x.add (s t1)).mono (by decide), (hP.y.add (s t2)).mono (by decide)⟩
  · exact ⟨hP.y.neg.mono (by decide), hP.x.mono (by decide)⟩
  · exact ⟨hP.x.neg.mono (by decide), hP.y.neg.mono (by decide)⟩
  · exact ⟨hP.y.neg.neg.mono (by decide), hP.x.neg.mono (by decide)⟩
  · exact ⟨hP.x.neg.mono (by decide), hP.y.mono (by decide)⟩
theorem places_lc {A B : Th} {a : Addr} (hA : TIn 1000 A) (hB : TIn 1000 B) {l o1 o5 o6 o7 o8 o9 o10 : Option D} : ∀ (ds : List D) (S : Sto) (R : List D → Sto → Prop), Bg S a → (∀ (Ps : List R2) S', (∀ P ∈ Ps, PR 40 P) → Bg S' a → R (Ps.map plD) S') →
    lcGo (.nm 12) tYesD (dCall m_l_place 3 0 (fun ds _ => ds) (aCons (vr 2) (aCons (cn (.int 30)) (aCons (dLst (aCons (vr 3) (aCons (vr 4) (aNil)))) (aNil)))) aNil) [l, o1, some (.ref a), some (thD A), some (thD B), o5, o6, o7, o8, o9, o10, none, none] ds S R
  | [], S, R, hb, k => k [] S (fun P hP => by cases hP) hb
  | d :: ds, S, R, hb, k => by
    refine Go.lg_cons ?_
    walk_at "bl"
    refine place2_spec hb (by decide) (by decide) hA hB fun P S' hP hb' => ?_
    refine places_lc hA hB ds S' _ hb' fun Ps S2 hPs hb2 => ?_
    refine k (P :: Ps) S2 (fun y hy => ?_) hb2
    rcases List.mem_cons.mp hy with h | h
    · rw [h]; exact hP
    · exact hPs y h
theorem law_pure : ∀ ns : List Int, ns.length ≤ 63 → m_law [.lst (ns.map D.int)] (fun _ => none) (fun d _ => d = .bl true) fun _ _ => False := by
  intro ns hl
  refine e_law ?_
  unfold t_law
  walk_at "bl"
  refine Go.r1' (n := max 1 (min 3 ns.length)) (by rw [List.length_map]; split <;> split <;> omega) (by omega) ?_
  refine forD_rng (fun j e s => ∃ o1 o2 o3 o4 o5 o6 o7 o8 o9 o10 o11 o12, e = [some (.lst (ns.map D.int)), o1, o2, o3, o4, o5, o6, o7, o8, o9, o10, o11, o12]) ⟨_, _, _, _, _, _, _, _, _, _, _, _, rfl⟩ ?_ ?_
  · rintro j e s hj ⟨o1, o2, o3, o4, o5, o6, o7, o8, o9, o10, o11, o12, rfl⟩
    refine ⟨_, rfl, fun N' hnx _ _ _ _ => ?_⟩
    show sSeq _ _ [some (.lst (ns.map D.int)), some (.int (0 + j)), o2, o3, o4, o5, o6, o7, o8, o9, o10, o11, o12] _ _
    walk_at "bl"
    refine Ld.bag_spec (by omega) (by omega) fun a S1 na b1 f1 => ?_
    walk_at "bl"
    refine Ld.take_spec b1 (by decide) (sm_k (by decide)) fun way S2 y0 y1 b2 _ => ?_
    walk_at "bl"
    refine Ld.thing_spec b2 (by decide) (by decide) fun A S3 hA iA _ b3 => ?_
    walk_at "bl"
    refine Ld.take_spec b3 (by decide) (sm_k (by decide)) fun way2 S4 z0 z1 b4 _ => ?_
    walk_at "bl"
    refine Ld.thing_spec b4 (by decide) (by decide) fun B S5 hB iB _ b5 => ?_
    have jA : TIn 105 A := iA
    have jB : TIn 105 B := iB
    walk_at "bl"
    refine Go.r1' (n := 4) rfl (by decide) ?_
    refine Go.lc' (by decide) ?_
    walk_at "bl"
    refine places_lc (TIn_mono jA (by decide)) (TIn_mono jB (by decide)) (rngD 0 4) S5 _ b5 fun Ps S6 hPs b6 => ?_
    walk_at "bl"
    refine places_right_spec hA hB hPs fun S7 u7 => ?_
    have b7 := b6.up u7
    walk_at "bl"
    refine Ld.take_spec b7 (by decide) (sm_k (by decide)) fun x S8 x0 x1 b8 _ => ?_
    walk_at "bl"
    refine Ld.take_spec b8 (by decide) (sm_k (by decide)) fun y S9 v0 v1 b9 _ => ?_
    walk_at "bl"
    have t1 : ((x - 49, y - 49) : P2).1.natAbs ≤ 50 := by dsimp only; omega
    have t2 : ((x - 49, y - 49) : P2).2.natAbs ≤ 50 := by dsimp only; omega
    rw [show D.tup [.int (x - 49), .int (y - 49)] = pt (x - 49, y - 49) from rfl]
    generalize ((x - 49, y - 49) : P2) = t at t1 t2 ⊢
    refine Go.r1' (n := 5) rfl (by decide) ?_
    refine forD_rng (fun w e s => ∃ o1 o7 o8 o9 o10 o11 o12, e = [some (.lst (ns.map D.int)), o1, some (.ref a), some (thD A), some (thD B), some (.lst (Ps.map plD)), some (pt t), o7, o8, o9, o10, o11, o12]) ⟨_, _, _, _, _, _, _, rfl⟩ ?_ ?_
    · rintro w e s hw ⟨o1, o7, o8, o9, o10, o11, o12, rfl⟩
      refine ⟨_, rfl, fun N2 hnx2 _ _ _ _ => ?_⟩
      show sSeq _ _ [some (.lst (ns.map D.int)), o1, some (.ref a), some (thD A), some (thD B), some (.lst (Ps.map plD)), some (pt t), some (.int (0 + w)), o8, o9, o10, o11, o12] _ _
      rw [show (0 : Int) + (w : Int) = ((w : Nat) : Int) by omega]
      have gA := good_wy hw t1 t2 hA jA
      have gB := good_wy hw t1 t2 hB jB
      walk_at "bl"
      refine thing_changed_spec hw ?_
      walk_at "bl"
      refine thing_changed_spec hw ?_
      walk_at "bl"
      refine apart_spec gA gB ?_
      walk_at "bl"
      refine apart_spec hA hB ?_
      refine ne_go (ap_wy hw hA hB gA gB) ?_
      walk_at "bl"
      refine forD_map (f := plD) (fun ps e s => ∃ o10, e = [some (.lst (ns.map D.int)), o1, some (.ref a), some (thD A), some (thD B), some (.lst (Ps.map plD)), some (pt t), some (.int (w : Int)), some (thD (wyT w t A)), some (thD (wyT w t B)), o10, o11, o12] ∧ ∀ P ∈ ps, PR 40 P) ?_ ?_ Ps ⟨_, rfl, hPs⟩
      · rintro P ps e s ⟨o10, rfl, hp⟩
        refine ⟨_, rfl, fun N3 hnx3 _ _ _ _ => ?_⟩
        show sIf _ _ _ [some (.lst (ns.map D.int)), o1, some (.ref a), some (thD A), some (thD B), some (.lst (Ps.map plD)), some (pt t), some (.int (w : Int)), some (thD (wyT w t A)), some (thD (wyT w t B)), some (plD P), o11, o12] _ _
        have pP := hp P (List.mem_cons_self ..)
        walk_at "bl"
        refine changed_pl hw ⟨pP.x.mono (by decide), pP.y.mono (by decide)⟩ ((show sm 6 _ by unfold sm; omega).mono (by decide)) ((show sm 6 _ by unfold sm; omega).mono (by decide)) ?_
        walk_at "bl"
        refine distance_spec gA (.place _) (pr_wy hw t1 t2 pP) (by decide) ?_
        walk_at "bl"
        refine distance_spec hA (.place P) pP (by decide) ?_
        refine ne_go (dist_wy hw hA gA P) ?_
        walk_at "bl"
        exact hnx3 _ _ ⟨_, rfl, fun y hy => hp y (List.mem_cons_of_mem _ hy)⟩
      · rintro e s ⟨o10, rfl, _⟩
        exact hnx2 _ _ ⟨_, _, _, _, _, _, _, rfl⟩
    · rintro e s ⟨o1, o7, o8, o9, o10, o11, o12, rfl⟩
      exact hnx _ _ ⟨_, _, _, _, _, _, _, _, _, _, _, _, rfl⟩
  · rintro e s ⟨o1, o2, o3, o4, o5, o6, o7, o8, o9, o10, o11, o12, rfl⟩
    walk_at "bl"
    rfl
end Ld.K18

namespace Ld.K18
open PySem PySem.Spec PyProof.Rows L2 Bl Lb
theorem facts {P : Program} {w : World} {K : PySem.W.Frag} {h : Heap} {mg : Str → Option Value} {f : Addr} (X : K.In h) (G : h.Ns mainGlobals mg) (hfa : mg ("law" : Str) = some (.ref f)) (c : He.SaysD fa fn K ∧ bx K = true) :
    ∃ fd : FuncData, (∀ (s : Shared) (v : Value), BindsTo s fd ⟨[v], []⟩ [("_law_script", v)]) ∧ ∀ base : Heap, K.In base → base.Ns mainGlobals mg → FnOk P w K mg base (L2.CX P w) 9 f fd ["_law_script"] (spLaw K 63) := by
  have T : Tp fa fn bx K mg := Tp.mk' X G c
  obtain ⟨fd, F⟩ := T.sy.def_ 52 (d := d_law) rfl
  have e := hfa.symm.trans (T.glo 66 (x := "law"))
  cases e
  refine ⟨fd, fun s v => FunD.bindsA (ps := ["_law_script"]) F (fun _ _ _ _ _ _ us hl => match us, hl with | [_], _ => rfl) s [v] rfl, fun base _ _ => ?_⟩
  have hok : FnOk P w K mg base (L2.CX P w) 9 _ fd ["_law_script"] (LSp K 1 m_law) := ok_law T F
  exact hok.imp (law_sp (mo_law (P := P) (w := w) (base := base) T) law_pure)
end Ld.K18
open PySem PySem.W PyProof.Rows
set_option maxHeartbeats 0 in
theorem PySem.Challenge.cw_bendlands_k18_distances_kept_holds : PySem.Challenge.rw_bendlands_k18_distances_kept.Holds := by
  w_on; o_law
  refine HandSHeadRun.head_any (r := OpenLaw.row PySem.Challenge.rw_bendlands_k18_distances_kept) (q := view (OpenLaw.row PySem.Challenge.rw_bendlands_k18_distances_kept).prog [64]) (H := Ld.K18.hk) (ob := Bl.obX 5 Ld.K18.fa Ld.K18.fn Ld.K18.bx) (M := 6000) (loose := Ld.K18.names) (d := HandSHeadRun.topDef (OpenLaw.row PySem.Challenge.rw_bendlands_k18_distances_kept).prog 64) (kwd := []) Bl.obX_eq
    (by kernel_rfl) (fun s => by kernel_rfl) Ld.K18.run (by kernel_rfl) (by kernel_rfl) (by kernel_rfl) (by rfl) (by first | assumption | decide +kernel) (by decide +kernel) ⟨rfl, rfl, rfl, rfl, rfl, by decide +kernel⟩ ?hw ?hc
  case hw => w_witness2
  case hc =>
    refine Bl.walk_ofX (l := PySem.Challenge.rw_bendlands_k18_distances_kept) (n := 63) (k := 9) (x := "_law_script") rfl (by decide) (by kernel_rfl) ⟨rfl, by decide, by decide⟩ ?F
    case F =>
      intro w mg fa h Y G hmg0
      obtain ⟨K, KX, c⟩ := Y
      have hmg : mg ("law" : PySem.Str) = some (.ref fa) := by
        have e : (HandSHeadRun.topDef (OpenLaw.row PySem.Challenge.rw_bendlands_k18_distances_kept).prog 64).name = ("law" : PySem.Str) := by kernel_rfl
        rw [← e]
        exact hmg0
      obtain ⟨fd, hb, hF⟩ := Ld.K18.facts (P := (PySem.Challenge.rw_bendlands_k18_distances_kept).prog) (w := w) KX G hmg c
      exact ⟨K, fd, KX, hb, hF⟩
