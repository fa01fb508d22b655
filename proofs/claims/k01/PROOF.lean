import PyProof.Rows.All
import HandS.ForMost
import HandS.ForExc
import HandS.Walk
import HandS.Wide
import HandS.IsInst
import HandS.Defaults
import HandS.Rev
import HandS.Zip
import HandS.TupAny
import HandS.Style
import HandS.Flow
import HandS.Deep
import HandS.TryOnly
import HandS.WordsExc
import HandS.MakeKwOnly
import HandS.WideBits
import HandS.HeadHook2
import HandS.HeadEnd
import HandS.Head0
import HandS.Head1
import HandS.Head2
import HandS.ExcIs
import PyProof.CollectIter
import PyProof.WalksMore
import HandS.RevTup
import KE.KUnpack
import KE.GoesEnum
import KE.GoesMore
import HandS.Dict
import HandS.RaiseFrom
import HandS.SuiteRaise
import PySem.Challenge.RW_bendlands_k01_fractions_made
set_option Elab.async false
set_option linter.all false
set_option maxRecDepth 100000
set_option maxHeartbeats 4000000
/-! Data without addresses: tuples by their items, lists that are grown by their address; each construct of the text as a transformer over them. -/
namespace Bl
open PySem PySem.Spec PyProof.Rows L2

inductive D where
  | non | bl (b : Bool) | int (i : Int) | str (x : Str)
  | tup (ds : List D) | lst (ds : List D)
  | ref (a : Addr) | obj (a : Addr)

abbrev Sto := Addr → Option (List D)
def sup (S : Sto) (a : Addr) (ds : List D) : Sto := fun b => if b = a then some ds else S b
def sdel (S : Sto) (a : Addr) : Sto := fun b => if b = a then none else S b
theorem sup_same {S : Sto} {a : Addr} {ds : List D} : sup S a ds a = some ds := if_pos rfl
theorem sup_ne {S : Sto} {a b : Addr} {ds : List D} (h : b ≠ a) : sup S a ds b = S b := if_neg h
theorem sdel_same {S : Sto} {a : Addr} : sdel S a a = none := if_pos rfl
theorem sdel_ne {S : Sto} {a b : Addr} (h : b ≠ a) : sdel S a b = S b := if_neg h

/-- the written part, and the lists that are being made out of sight -/
structure Kz where
  K : PySem.W.Frag
  Z : Addr → Prop
/-- a list of the written part -/
def KL (K : PySem.W.Frag) (a : Addr) (xs : List V) : Prop :=
  ∃ (o : Obj) (its : Array Value) (n : Nat), K.lookup a = some o ∧ o.cls = .type "list" ∧ o.dict = none ∧ o.data = .seq its n ∧ its.size ≤ sizeLine ∧ Vals xs its.toList

mutual
inductive Rp (K : Kz) (S : Sto) (H : Hp) : D → V → Prop
  | non : Rp K S H .non .non
  | bl (b : Bool) : Rp K S H (.bl b) (.bl b)
  | int (i : Int) : Rp K S H (.int i) (.int i)
  | str (x : Str) : Rp K S H (.str x) (.str x)
  | tup {a : Addr} {vs : List V} {ds : List D} : SqT K.K H a vs → RpL K S H ds vs → Rp K S H (.tup ds) (.ref a)
  | lst {a : Addr} {vs : List V} {ds : List D} : Rd H a (.lst vs) → S a = none → ¬ K.Z a → RpL K S H ds vs → Rp K S H (.lst ds) (.ref a)
  | lstK {a : Addr} {vs : List V} {ds : List D} : KL K.K a vs → RpL K S H ds vs → Rp K S H (.lst ds) (.ref a)
  | ref (a : Addr) : Rp K S H (.ref a) (.ref a)
  | obj (a : Addr) : Rp K S H (.obj a) (.ref a)
inductive RpL (K : Kz) (S : Sto) (H : Hp) : List D → List V → Prop
  | nil : RpL K S H [] []
  | cons {d : D} {v : V} {ds : List D} {vs : List V} : Rp K S H d v → RpL K S H ds vs → RpL K S H (d :: ds) (v :: vs)
end

/-- the lists that are grown stand in the heap -/
structure RS (K : Kz) (S : Sto) (H : Hp) : Prop where
  at_ : ∀ a ds, S a = some ds → ∃ vs, H a = some (.lst vs) ∧ RpL K S H ds vs
  hid : ∀ b, K.Z b → S b = none ∧ ∃ vs, H b = some (.lst vs)
/-- what else stands, stands on -/
def Step (S : Sto) (H : Hp) (S' : Sto) (H' : Hp) : Prop := ∀ b o, H b = some o → S b = none → S' b = none ∧ H' b = some o
theorem Step.refl (S : Sto) (H : Hp) : Step S H S H := fun _ _ h n => ⟨n, h⟩
theorem Step.trans {S S1 S2 : Sto} {H H1 H2 : Hp} (a : Step S H S1 H1) (b : Step S1 H1 S2 H2) : Step S H S2 H2 := fun c o h n => by
  obtain ⟨n1, h1⟩ := a c o h n
  exact b c o h1 n1

theorem RS.off {K : Kz} {S : Sto} {H : Hp} {a : Addr} {o : HO} (rs : RS K S H) (h : H a = some o) (hn : ∀ vs, o ≠ .lst vs) : S a = none := by
  cases e : S a with
  | none => rfl
  | some ds =>
    obtain ⟨vs, q, _⟩ := rs.at_ a ds e
    rw [h] at q
    exact absurd (Option.some.inj q) (hn vs)
theorem RS.free {K : Kz} {S : Sto} {H : Hp} {a : Addr} (rs : RS K S H) (h : H a = none) : S a = none := by
  cases e : S a with
  | none => rfl
  | some ds =>
    obtain ⟨vs, q, _⟩ := rs.at_ a ds e
    rw [h] at q
    cases q
theorem Step.rdT {K : Kz} {S S' : Sto} {H H' : Hp} {a : Addr} {xs : List V} (st : Step S H S' H') (rs : RS K S H) (h : Rd H a (.tup xs)) : Rd H' a (.tup xs) := by
  rcases h with h | ⟨o, h⟩
  · exact .inl (st a _ h (rs.off h fun vs z => by cases z)).2
  · exact .inr ⟨o, (st a _ h (rs.off h fun vs z => by cases z)).2⟩
theorem Step.sqT {K : Kz} {S S' : Sto} {H H' : Hp} {a : Addr} {xs : List V} (st : Step S H S' H') (rs : RS K S H) (h : SqT K.K H a xs) : SqT K.K H' a xs := by
  rcases h with h | h
  · exact .inl (st.rdT rs h)
  · exact .inr h
theorem Step.rdL {S S' : Sto} {H H' : Hp} {a : Addr} {xs : List V} (st : Step S H S' H') (h : Rd H a (.lst xs)) (n : S a = none) : Rd H' a (.lst xs) ∧ S' a = none := by
  rcases h with h | ⟨o, h⟩
  · obtain ⟨n1, h1⟩ := st a _ h n
    exact ⟨.inl h1, n1⟩
  · obtain ⟨n1, h1⟩ := st a _ h n
    exact ⟨.inr ⟨o, h1⟩, n1⟩
section
variable {K : Kz} {S S' : Sto} {H H' : Hp}
mutual
theorem Rp.step (st : Step S H S' H') (rs : RS K S H) : ∀ (d : D) (v : V), Rp K S H d v → Rp K S' H' d v
  | .non, _, h => by cases h; exact .non
  | .bl b, _, h => by cases h; exact .bl b
  | .int i, _, h => by cases h; exact .int i
  | .str x, _, h => by cases h; exact .str x
  | .tup ds, _, h => by
    cases h with
    | tup hs ha => exact .tup (st.sqT rs hs) (RpL.step st rs ds _ ha)
  | .lst ds, _, h => by
    cases h with
    | lst hs hn hz ha => exact .lst (st.rdL hs hn).1 (st.rdL hs hn).2 hz (RpL.step st rs ds _ ha)
    | lstK hs ha => exact .lstK hs (RpL.step st rs ds _ ha)
  | .ref a, _, h => by cases h; exact .ref a
  | .obj a, _, h => by cases h; exact .obj a
theorem RpL.step (st : Step S H S' H') (rs : RS K S H) : ∀ (ds : List D) (vs : List V), RpL K S H ds vs → RpL K S' H' ds vs
  | [], _, h => by cases h; exact .nil
  | d :: ds, _, h => by
    cases h with
    | cons h1 h2 => exact .cons (Rp.step st rs d _ h1) (RpL.step st rs ds _ h2)
end
theorem RpL.length : ∀ {ds : List D} {vs : List V}, RpL K S H ds vs → ds.length = vs.length
  | [], _, h => by cases h; rfl
  | _ :: _, _, h => by
    cases h with
    | cons _ h2 => exact congrArg Nat.succ (RpL.length h2)
theorem RpL.get : ∀ {ds : List D} {vs : List V} {i : Nat} {d : D}, RpL K S H ds vs → ds[i]? = some d → ∃ v, vs[i]? = some v ∧ Rp K S H d v
  | [], _, i, d, _, e => by simp at e
  | d0 :: ds, _, i, d, h, e => by
    cases h with
    | cons h1 h2 =>
      cases i with
      | zero => simp at e; subst e; exact ⟨_, rfl, h1⟩
      | succ i =>
        obtain ⟨v, e1, e2⟩ := RpL.get (i := i) (d := d) h2 (by simpa using e)
        exact ⟨v, by simpa using e1, e2⟩
theorem RpL.append : ∀ {ds es : List D} {vs ws : List V}, RpL K S H ds vs → RpL K S H es ws → RpL K S H (ds ++ es) (vs ++ ws)
  | [], _, _, _, h, h2 => by cases h; exact h2
  | _ :: _, _, _, _, h, h2 => by
    cases h with
    | cons p q => exact .cons p (RpL.append q h2)
theorem RpL.take : ∀ {ds : List D} {vs : List V} (n : Nat), RpL K S H ds vs → RpL K S H (ds.take n) (vs.take n)
  | _, _, 0, _ => by simp; exact .nil
  | [], _, n + 1, h => by cases h; exact .nil
  | d :: ds, _, n + 1, h => by
    cases h with
    | cons p q => exact .cons p (RpL.take n q)
theorem RpL.drop : ∀ {ds : List D} {vs : List V} (n : Nat), RpL K S H ds vs → RpL K S H (ds.drop n) (vs.drop n)
  | _, _, 0, h => h
  | [], _, n + 1, h => by cases h; exact .nil
  | d :: ds, _, n + 1, h => by
    cases h with
    | cons p q => exact RpL.drop n q
theorem RpL.set : ∀ {ds : List D} {vs : List V} {d : D} {v : V} (i : Nat), RpL K S H ds vs → Rp K S H d v → RpL K S H (ds.set i d) (vs.set i v)
  | [], _, d, v, i, h, h1 => by cases h; exact .nil
  | _ :: _, _, d, v, i, h, h1 => by
    cases h with
    | cons p q =>
      cases i with
      | zero => exact .cons h1 q
      | succ i => exact .cons p (RpL.set i q h1)
theorem RpL.ints {ns : List Int} : RpL K S H (ns.map D.int) (ns.map V.int) := by
  induction ns with
  | nil => exact .nil
  | cons n r ih => exact .cons (.int n) ih
end

/-! ### the slots -/
abbrev Ev := List (Option D)
structure RE (K : Kz) (S : Sto) (H : Hp) (env : Ev) (σ : L2.St) : Prop where
  len : env.length = σ.length
  at_ : ∀ (i : Nat) (d : D), env[i]? = some (some d) → ∃ v, σ[i]? = some (some v) ∧ Rp K S H d v
section
variable {K : Kz} {S S' : Sto} {H H' : Hp} {env : Ev} {σ : L2.St}
theorem RE.step (st : Step S H S' H') (rs : RS K S H) (re : RE K S H env σ) : RE K S' H' env σ :=
  ⟨re.len, fun i d e => by
    obtain ⟨v, e1, r⟩ := re.at_ i d e
    exact ⟨v, e1, Rp.step st rs d v r⟩⟩
theorem RE.set (re : RE K S H env σ) {d : D} {v : V} (r : Rp K S H d v) (i : Nat) : RE K S H (env.set i (some d)) (σ.set i (some v)) := by
  refine ⟨by rw [List.length_set, List.length_set]; exact re.len, fun j e h => ?_⟩
  by_cases hj : i = j
  · subst hj
    by_cases hl : i < env.length
    · rw [List.getElem?_set_self hl] at h
      cases h
      exact ⟨v, List.getElem?_set_self (by rw [← re.len]; exact hl), r⟩
    · rw [List.getElem?_eq_none (by rw [List.length_set]; omega)] at h
      cases h
  · rw [List.getElem?_set_ne hj] at h
    rw [List.getElem?_set_ne hj]
    exact re.at_ j e h
theorem RE.unset (re : RE K S H env σ) (i : Nat) : RE K S H (env.set i none) (σ.set i none) := by
  refine ⟨by rw [List.length_set, List.length_set]; exact re.len, fun j e h => ?_⟩
  by_cases hj : i = j
  · subst hj
    by_cases hl : i < env.length
    · rw [List.getElem?_set_self hl] at h
      cases h
    · rw [List.getElem?_eq_none (by rw [List.length_set]; omega)] at h
      cases h
  · rw [List.getElem?_set_ne hj] at h
    rw [List.getElem?_set_ne hj]
    exact re.at_ j e h
theorem RE.start {ds : List D} {vs : List V} (r : RpL K S H ds vs) (n : Nat) : RE K S H (ds.map some ++ List.replicate n none) (vs.map some ++ List.replicate n none) := by
  refine ⟨by simp [r.length], fun i d h => ?_⟩
  by_cases hi : i < ds.length
  · rw [List.getElem?_append_left (by simpa using hi), List.getElem?_map] at h
    cases e : ds[i]? with
    | none => rw [e] at h; cases h
    | some x =>
      rw [e] at h
      cases h
      obtain ⟨v, e1, r1⟩ := r.get e
      have hv : i < vs.length := by rw [← r.length]; exact hi
      exact ⟨v, by rw [List.getElem?_append_left (by simpa using hv), List.getElem?_map, e1]; rfl, r1⟩
  · rw [List.getElem?_append_right (by simpa using hi), List.getElem?_replicate] at h
    split at h <;> cases h
end

/-! ### an exception -/
structure Xc where
  nm : Str
  fs : List (Str × D)
def RX (K : Kz) (S : Sto) (H : Hp) (x : Xc) (c : Value) (dx : Option Addr) : Prop :=
  (∃ C, PySem.W.nsIn K.K mainGlobals x.nm = some (some (.ref C)) ∧ c = .ref C) ∧ match dx with
    | none => x.fs = []
    | some a => x.fs ≠ [] ∧ ∃ fv : List (Str × V), H a = some (.xd fv) ∧ fv.map (·.1) = x.fs.map (·.1) ∧ RpL K S H (x.fs.map (·.2)) (fv.map (·.2))

/-! ### transformers -/
abbrev DK := D → Sto → Prop
abbrev EK := Xc → Sto → Prop
abbrev TX (α : Type) := Ev → Sto → (α → Sto → Prop) → EK → Prop
abbrev TEd := TX D
abbrev TTd := TX Bool
abbrev TAd := TX (List D)
structure Nd where
  nx : Ev → Sto → Prop
  rt : DK
  bk : Ev → Sto → Prop
  ct : Ev → Sto → Prop
  ex : Xc → Ev → Sto → Prop
abbrev TSd := Ev → Sto → Nd → Prop
abbrev TFd := List D → Sto → DK → EK → Prop
def MoE {α : Type} (t : TX α) : Prop := ∀ env S (Q Q' : α → Sto → Prop) (E E' : EK), (∀ d S, Q d S → Q' d S) → (∀ x S, E x S → E' x S) → t env S Q E → t env S Q' E'
structure NdLe (A B : Nd) : Prop where
  nx : ∀ e S, A.nx e S → B.nx e S
  rt : ∀ d S, A.rt d S → B.rt d S
  bk : ∀ e S, A.bk e S → B.bk e S
  ct : ∀ e S, A.ct e S → B.ct e S
  ex : ∀ x e S, A.ex x e S → B.ex x e S
def MoS (t : TSd) : Prop := ∀ env S (A B : Nd), NdLe A B → t env S A → t env S B
def MoF (f : TFd) : Prop := ∀ ds S (Q Q' : DK) (E E' : EK), (∀ d S, Q d S → Q' d S) → (∀ x S, E x S → E' x S) → f ds S Q E → f ds S Q' E'

structure Aft (K : Kz) (S : Sto) (H : Hp) (S' : Sto) (H' : Hp) : Prop where
  st : Step S H S' H'
  rs : RS K S' H'
theorem Aft.trans {K : Kz} {S S1 S2 : Sto} {H H1 H2 : Hp} (a : Aft K S H S1 H1) (b : Aft K S1 H1 S2 H2) : Aft K S H S2 H2 := ⟨a.st.trans b.st, b.rs⟩
theorem Aft.refl {K : Kz} {S : Sto} {H : Hp} (rs : RS K S H) : Aft K S H S H := ⟨Step.refl S H, rs⟩

/-- what is wanted of an exception -/
def PX (K : Kz) (S : Sto) (H : Hp) (σ : L2.St) (W : WX) : EK := fun x S' => ∀ c dx H', Aft K S H S' H' → RX K S' H' x c dx → W c dx σ H'
def LE (K : PySem.W.Frag) (W : WX) (t : TEd) : TE := fun σ H Q => ∃ Z env S, RE ⟨K, Z⟩ S H env σ ∧ RS ⟨K, Z⟩ S H ∧ t env S (fun d S' => ∀ v H', Aft ⟨K, Z⟩ S H S' H' → Rp ⟨K, Z⟩ S' H' d v → Q v H') (PX ⟨K, Z⟩ S H σ W)
def LT (K : PySem.W.Frag) (W : WX) (t : TTd) : TT := fun σ H Q => ∃ Z env S, RE ⟨K, Z⟩ S H env σ ∧ RS ⟨K, Z⟩ S H ∧ t env S (fun b S' => ∀ H', Aft ⟨K, Z⟩ S H S' H' → Q b H') (PX ⟨K, Z⟩ S H σ W)
def LA (K : PySem.W.Frag) (W : WX) (t : TAd) : TA := fun σ H Q => ∃ Z env S, RE ⟨K, Z⟩ S H env σ ∧ RS ⟨K, Z⟩ S H ∧ t env S (fun ds S' => ∀ vs H', Aft ⟨K, Z⟩ S H S' H' → RpL ⟨K, Z⟩ S' H' ds vs → Q vs H') (PX ⟨K, Z⟩ S H σ W)
def LN (K : Kz) (S : Sto) (H : Hp) (W : WX) (N : Ends) : Nd where
  nx := fun e S' => ∀ σ' H', Aft K S H S' H' → RE K S' H' e σ' → N.nx σ' H'
  rt := fun d S' => ∀ v H', Aft K S H S' H' → Rp K S' H' d v → N.rt v H'
  bk := fun e S' => ∀ σ' H', Aft K S H S' H' → RE K S' H' e σ' → N.bk σ' H'
  ct := fun e S' => ∀ σ' H', Aft K S H S' H' → RE K S' H' e σ' → N.ct σ' H'
  ex := fun x e S' => ∀ c dx σ' H', Aft K S H S' H' → RE K S' H' e σ' → RX K S' H' x c dx → W c dx σ' H'
def LS (K : PySem.W.Frag) (W : WX) (t : TSd) : TS := fun N σ H => ∃ Z env S, RE ⟨K, Z⟩ S H env σ ∧ RS ⟨K, Z⟩ S H ∧ t env S (LN ⟨K, Z⟩ S H W N)

structure JE (X : Cx) (W : WX) (e : Expr) (t : TEd) : Prop where
  pe : PE X e (LE X.K W t)
  mo : MoE t
structure JT (X : Cx) (W : WX) (e : Expr) (t : TTd) : Prop where
  pt : PT X e (LT X.K W t)
  mo : MoE t
structure JW (X : Cx) (W : WX) (e : Expr) (t : TTd) : Prop where
  pw : PW X e (LT X.K W t)
  mo : MoE t
structure JA (X : Cx) (W : WX) (es : List Expr) (t : TAd) : Prop where
  pa : PA X es (LA X.K W t)
  mo : MoE t
structure JS (X : Cx) (W : WX) (st : Stmt) (t : TSd) : Prop where
  ps : PS X st (LS X.K W t)
  mo : MoS t
structure JB (X : Cx) (W : WX) (st : List Stmt) (t : TSd) : Prop where
  ps : PSs X st (LS X.K W t)
  mo : MoS t

theorem PE.imp {X : Cx} {e : Expr} {t u : TE} (h : PE X e t) (k : ∀ σ H Q, u σ H Q → t σ H Q) : PE X e u := ⟨fun pins s σ H Q I q => h.run pins s σ H Q I (k σ H Q q)⟩
theorem PT.imp {X : Cx} {e : Expr} {t u : TT} (h : PT X e t) (k : ∀ σ H Q, u σ H Q → t σ H Q) : PT X e u := ⟨fun pins s σ H Q I q => h.run pins s σ H Q I (k σ H Q q)⟩
theorem PW.imp {X : Cx} {e : Expr} {t u : TT} (h : PW X e t) (k : ∀ σ H Q, u σ H Q → t σ H Q) : PW X e u := ⟨fun wh pins s σ H Q I q => h.run wh pins s σ H Q I (k σ H Q q)⟩
theorem PA.imp {X : Cx} {es : List Expr} {t u : TA} (h : PA X es t) (k : ∀ σ H Q, u σ H Q → t σ H Q) : PA X es u := ⟨fun p pins s σ H Q I q => h.run p pins s σ H Q I (k σ H Q q)⟩
theorem PS.imp {X : Cx} {st : Stmt} {t u : TS} (h : PS X st t) (k : ∀ N σ H, u N σ H → t N σ H) : PS X st u := ⟨fun pins s σ H N I q => h.run pins s σ H N I (k N σ H q)⟩
theorem PSs.imp {X : Cx} {st : List Stmt} {t u : TS} (h : PSs X st t) (k : ∀ N σ H, u N σ H → t N σ H) : PSs X st u := ⟨fun pins s σ H N I q => h.run pins s σ H N I (k N σ H q)⟩

/-! ### the lifted forms, from a state -/
section
variable {K : Kz} {W : WX} {S : Sto} {H : Hp} {env : Ev} {σ : L2.St}
theorem LE.of {t : TEd} (mo : MoE t) (re : RE K S H env σ) (rs : RS K S H) {C : DK} {E : EK} {R : VK} (h : t env S C E)
    (hc : ∀ d S1 v H1, C d S1 → Aft K S H S1 H1 → Rp K S1 H1 d v → R v H1) (he : ∀ x S1 c dx H1, E x S1 → Aft K S H S1 H1 → RX K S1 H1 x c dx → W c dx σ H1) : LE K.K W t σ H R :=
  ⟨K.Z, env, S, re, rs, mo _ _ _ _ _ _ (fun d S1 q v H1 a r => hc d S1 v H1 q a r) (fun x S1 q c dx H1 a r => he x S1 c dx H1 q a r) h⟩
theorem LT.of {t : TTd} (mo : MoE t) (re : RE K S H env σ) (rs : RS K S H) {C : Bool → Sto → Prop} {E : EK} {R : Bool → Hp → Prop} (h : t env S C E)
    (hc : ∀ d S1 H1, C d S1 → Aft K S H S1 H1 → R d H1) (he : ∀ x S1 c dx H1, E x S1 → Aft K S H S1 H1 → RX K S1 H1 x c dx → W c dx σ H1) : LT K.K W t σ H R :=
  ⟨K.Z, env, S, re, rs, mo _ _ _ _ _ _ (fun d S1 q H1 a => hc d S1 H1 q a) (fun x S1 q c dx H1 a r => he x S1 c dx H1 q a r) h⟩
theorem LA.of {t : TAd} (mo : MoE t) (re : RE K S H env σ) (rs : RS K S H) {C : List D → Sto → Prop} {E : EK} {R : List V → Hp → Prop} (h : t env S C E)
    (hc : ∀ d S1 v H1, C d S1 → Aft K S H S1 H1 → RpL K S1 H1 d v → R v H1) (he : ∀ x S1 c dx H1, E x S1 → Aft K S H S1 H1 → RX K S1 H1 x c dx → W c dx σ H1) : LA K.K W t σ H R :=
  ⟨K.Z, env, S, re, rs, mo _ _ _ _ _ _ (fun d S1 q v H1 a r => hc d S1 v H1 q a r) (fun x S1 q c dx H1 a r => he x S1 c dx H1 q a r) h⟩
theorem LS.of {t : TSd} (mo : MoS t) (re : RE K S H env σ) (rs : RS K S H) {N : Nd} {M : Ends} (h : t env S N) (hl : NdLe N (LN K S H W M)) : LS K.K W t M σ H :=
  ⟨K.Z, env, S, re, rs, mo _ _ _ _ hl h⟩
/-- exceptions behind a step -/
theorem PX.after {S1 : Sto} {H1 : Hp} (a : Aft K S H S1 H1) {x : Xc} {S2 : Sto} (h : PX K S H σ W x S2) : ∀ c dx H2, Aft K S1 H1 S2 H2 → RX K S2 H2 x c dx → W c dx σ H2 :=
  fun c dx H2 b r => h c dx H2 (a.trans b) r
theorem LN.after {S1 : Sto} {H1 : Hp} (a : Aft K S H S1 H1) (N : Ends) : NdLe (LN K S H W N) (LN K S1 H1 W N) :=
  ⟨fun e S2 h σ' H' b r => h σ' H' (a.trans b) r, fun d S2 h v H' b r => h v H' (a.trans b) r, fun e S2 h σ' H' b r => h σ' H' (a.trans b) r,
   fun e S2 h σ' H' b r => h σ' H' (a.trans b) r, fun x e S2 h c dx σ' H' b r q => h c dx σ' H' (a.trans b) r q⟩
end

/-! ### a list that is made out of sight -/
abbrev Kz.more (K : Kz) (p : Addr) : Kz := ⟨K.K, fun b => K.Z b ∨ b = p⟩
section
variable {K : Kz} {S : Sto} {H : Hp} {p : Addr}
mutual
theorem Rp.hide {xs : List V} (hp : H p = none) : ∀ (d : D) (v : V), Rp K S H d v → Rp (K.more p) S (upd H p (.lst xs)) d v
  | .non, _, h => by cases h; exact .non
  | .bl b, _, h => by cases h; exact .bl b
  | .int i, _, h => by cases h; exact .int i
  | .str x, _, h => by cases h; exact .str x
  | .tup ds, _, h => by
    cases h with
    | tup hs ha =>
      refine .tup ?_ (RpL.hide hp ds _ ha)
      rcases hs with (h | ⟨o, h⟩) | h
      · exact .inl (.inl (by rw [upd_ne (ne_of_none h hp)]; exact h))
      · exact .inl (.inr ⟨o, by rw [upd_ne (ne_of_none h hp)]; exact h⟩)
      · exact .inr h
  | .lst ds, _, h => by
    cases h with
    | lst hs hn hz ha =>
      rename_i a vs
      have ne : a ≠ p := by
        rcases hs with h | ⟨o, h⟩
        · exact ne_of_none h hp
        · exact ne_of_none h hp
      refine .lst ?_ hn (fun z => z.elim hz ne) (RpL.hide hp ds _ ha)
      rcases hs with h | ⟨o, h⟩
      · exact .inl (by rw [upd_ne ne]; exact h)
      · exact .inr ⟨o, by rw [upd_ne ne]; exact h⟩
    | lstK hs ha => exact .lstK hs (RpL.hide hp ds _ ha)
  | .ref a, _, h => by cases h; exact .ref a
  | .obj a, _, h => by cases h; exact .obj a
theorem RpL.hide {xs : List V} (hp : H p = none) : ∀ (ds : List D) (vs : List V), RpL K S H ds vs → RpL (K.more p) S (upd H p (.lst xs)) ds vs
  | [], _, h => by cases h; exact .nil
  | d :: ds, _, h => by
    cases h with
    | cons h1 h2 => exact .cons (Rp.hide hp d _ h1) (RpL.hide hp ds _ h2)
end
mutual
/-- the hidden list is written -/
theorem Rp.grow {xs ys : List V} (hp : H p = some (.lst ys)) : ∀ (d : D) (v : V), Rp (K.more p) S H d v → Rp (K.more p) S (upd H p (.lst xs)) d v
  | .non, _, h => by cases h; exact .non
  | .bl b, _, h => by cases h; exact .bl b
  | .int i, _, h => by cases h; exact .int i
  | .str x, _, h => by cases h; exact .str x
  | .tup ds, _, h => by
    cases h with
    | tup hs ha =>
      rename_i a vs
      refine .tup ?_ (RpL.grow hp ds _ ha)
      rcases hs with (h | ⟨o, h⟩) | h
      · exact .inl (.inl (by rw [upd_ne (ne_of h hp (by intro z; cases z))]; exact h))
      · exact .inl (.inr ⟨o, by rw [upd_ne (ne_of h hp (by intro z; cases z))]; exact h⟩)
      · exact .inr h
  | .lst ds, _, h => by
    cases h with
    | lst hs hn hz ha =>
      rename_i a vs
      have ne : a ≠ p := fun z => hz (.inr z)
      refine .lst ?_ hn hz (RpL.grow hp ds _ ha)
      rcases hs with h | ⟨o, h⟩
      · exact .inl (by rw [upd_ne ne]; exact h)
      · exact .inr ⟨o, by rw [upd_ne ne]; exact h⟩
    | lstK hs ha => exact .lstK hs (RpL.grow hp ds _ ha)
  | .ref a, _, h => by cases h; exact .ref a
  | .obj a, _, h => by cases h; exact .obj a
theorem RpL.grow {xs ys : List V} (hp : H p = some (.lst ys)) : ∀ (ds : List D) (vs : List V), RpL (K.more p) S H ds vs → RpL (K.more p) S (upd H p (.lst xs)) ds vs
  | [], _, h => by cases h; exact .nil
  | d :: ds, _, h => by
    cases h with
    | cons h1 h2 => exact .cons (Rp.grow hp d _ h1) (RpL.grow hp ds _ h2)
end
mutual
theorem Rp.show_ : ∀ (d : D) (v : V), Rp (K.more p) S H d v → Rp K S H d v
  | .non, _, h => by cases h; exact .non
  | .bl b, _, h => by cases h; exact .bl b
  | .int i, _, h => by cases h; exact .int i
  | .str x, _, h => by cases h; exact .str x
  | .tup ds, _, h => by
    cases h with
    | tup hs ha => exact .tup hs (RpL.show_ ds _ ha)
  | .lst ds, _, h => by
    cases h with
    | lst hs hn hz ha => exact .lst hs hn (fun z => hz (.inl z)) (RpL.show_ ds _ ha)
    | lstK hs ha => exact .lstK hs (RpL.show_ ds _ ha)
  | .ref a, _, h => by cases h; exact .ref a
  | .obj a, _, h => by cases h; exact .obj a
theorem RpL.show_ : ∀ (ds : List D) (vs : List V), RpL (K.more p) S H ds vs → RpL K S H ds vs
  | [], _, h => by cases h; exact .nil
  | d :: ds, _, h => by
    cases h with
    | cons h1 h2 => exact .cons (Rp.show_ d _ h1) (RpL.show_ ds _ h2)
end
mutual
/-- the list is told -/
theorem Rp.unhide {es : List D} : ∀ (d : D) (v : V), Rp (K.more p) S H d v → Rp K (sup S p es) H d v
  | .non, _, h => by cases h; exact .non
  | .bl b, _, h => by cases h; exact .bl b
  | .int i, _, h => by cases h; exact .int i
  | .str x, _, h => by cases h; exact .str x
  | .tup ds, _, h => by
    cases h with
    | tup hs ha => exact .tup hs (RpL.unhide ds _ ha)
  | .lst ds, _, h => by
    cases h with
    | lst hs hn hz ha => exact .lst hs (by rw [sup_ne fun z => hz (.inr z)]; exact hn) (fun z => hz (.inl z)) (RpL.unhide ds _ ha)
    | lstK hs ha => exact .lstK hs (RpL.unhide ds _ ha)
  | .ref a, _, h => by cases h; exact .ref a
  | .obj a, _, h => by cases h; exact .obj a
theorem RpL.unhide {es : List D} : ∀ (ds : List D) (vs : List V), RpL (K.more p) S H ds vs → RpL K (sup S p es) H ds vs
  | [], _, h => by cases h; exact .nil
  | d :: ds, _, h => by
    cases h with
    | cons h1 h2 => exact .cons (Rp.unhide d _ h1) (RpL.unhide ds _ h2)
end
theorem RS.hide {xs : List V} (rs : RS K S H) (hp : H p = none) : RS (K.more p) S (upd H p (.lst xs)) := by
  refine ⟨fun a ds e => ?_, fun b hb => ?_⟩
  · obtain ⟨vs, q, r⟩ := rs.at_ a ds e
    exact ⟨vs, by rw [upd_ne (ne_of_none q hp)]; exact q, RpL.hide hp _ _ r⟩
  · rcases hb with hb | rfl
    · obtain ⟨n, vs, q⟩ := rs.hid b hb
      exact ⟨n, vs, by rw [upd_ne (ne_of_none q hp)]; exact q⟩
    · exact ⟨rs.free hp, xs, upd_same⟩
theorem RS.grow {xs ys : List V} (rs : RS (K.more p) S H) (hp : H p = some (.lst ys)) : RS (K.more p) S (upd H p (.lst xs)) := by
  have np : S p = none := (rs.hid p (.inr rfl)).1
  refine ⟨fun a ds e => ?_, fun b hb => ?_⟩
  · obtain ⟨vs, q, r⟩ := rs.at_ a ds e
    have ne : a ≠ p := fun z => by rw [z, np] at e; cases e
    exact ⟨vs, by rw [upd_ne ne]; exact q, RpL.grow hp _ _ r⟩
  · obtain ⟨n, vs, q⟩ := rs.hid b hb
    by_cases hbp : b = p
    · subst hbp
      exact ⟨n, xs, upd_same⟩
    · exact ⟨n, vs, by rw [upd_ne hbp]; exact q⟩
theorem RS.show_ (rs : RS (K.more p) S H) : RS K S H := by
  refine ⟨fun a ds e => ?_, fun b hb => rs.hid b (.inl hb)⟩
  obtain ⟨vs, q, r⟩ := rs.at_ a ds e
  exact ⟨vs, q, RpL.show_ _ _ r⟩
theorem Rp.made {ds : List D} {vs : List V} (rs : RS (K.more p) S H) (hp : H p = some (.lst vs)) (hz : ¬ K.Z p) (r : RpL (K.more p) S H ds vs) : Rp K S H (.lst ds) (.ref p) :=
  .lst (.inl hp) (rs.hid p (.inr rfl)).1 hz (RpL.show_ _ _ r)
end
end Bl

namespace Bl
open PySem PySem.Spec PyProof.Rows L2

/-! ### where one stands -/
/-- a block's view: the slots that it sees, its locals, its cells; the module's and built-in names -/
structure Vw where
  vl : List Nat
  lo : List Nat
  ce : List Nat
  gs : List Str
/-- the names of a block by slot -/
structure Sc (N : List Str) (sc : Scope) (vw : Vw) : Prop where
  vis : ∀ i ∈ vw.vl, ∀ x, N[i]? = some x → Vis sc x ∧ (x == ("__debug__" : Str)) = false ∧ (x == ("__classdict__" : Str)) = false
  loc : ∀ i ∈ vw.lo, ∀ x, N[i]? = some x → sc.names.lookup x = some .local
  cel : ∀ i ∈ vw.ce, ∀ x, N[i]? = some x → sc.names.lookup x = some .cell
  gl : ∀ x ∈ vw.gs, sc.names.lookup x = some .globalImplicit ∧ x ≠ "__name__" ∧ (x == ("__debug__" : Str)) = false
def isLoc : Option NameKind → Bool
  | some .local => true
  | _ => false
def isCel : Option NameKind → Bool
  | some .cell => true
  | _ => false
def isVis : Option NameKind → Bool
  | some .local => true
  | some .cell => true
  | some .free => true
  | _ => false
def isGlo : Option NameKind → Bool
  | some .globalImplicit => true
  | _ => false
def scC (N : List Str) (sc : Scope) (vw : Vw) : Bool :=
  (vw.vl.all fun i => match N[i]? with
    | none => true
    | some x => isVis (sc.names.lookup x) && !(x == ("__debug__" : Str)) && !(x == ("__classdict__" : Str))) &&
  ((vw.lo.all fun i => match N[i]? with
    | none => true
    | some x => isLoc (sc.names.lookup x)) && (vw.ce.all fun i => match N[i]? with
    | none => true
    | some x => isCel (sc.names.lookup x))) &&
  (vw.gs.all fun x => isGlo (sc.names.lookup x) && decide (x ≠ "__name__") && !(x == ("__debug__" : Str)))
theorem scOf {N : List Str} {sc : Scope} {vw : Vw} (h : scC N sc vw = true) : Sc N sc vw := by
  unfold scC at h
  rw [Bool.and_eq_true, Bool.and_eq_true, Bool.and_eq_true, List.all_eq_true, List.all_eq_true, List.all_eq_true, List.all_eq_true] at h
  obtain ⟨⟨h1, h3, h4⟩, h2⟩ := h
  refine ⟨fun i hi x e => ?_, fun i hi x e => ?_, fun i hi x e => ?_, fun x hx => ?_⟩
  · have q := h1 i hi
    rw [e] at q
    simp only [Bool.and_eq_true, Bool.not_eq_true'] at q
    refine ⟨?_, q.1.2, q.2⟩
    have z := q.1.1
    unfold isVis at z
    unfold Vis
    split at z
    · exact .inl (by assumption)
    · exact .inr (.inl (by assumption))
    · exact .inr (.inr (by assumption))
    · cases z
  · have z := h3 i hi
    rw [e] at z
    dsimp only at z
    unfold isLoc at z
    split at z
    · assumption
    · cases z
  · have z := h4 i hi
    rw [e] at z
    dsimp only at z
    unfold isCel at z
    split at z
    · assumption
    · cases z
  · have q := h2 x hx
    simp only [Bool.and_eq_true, Bool.not_eq_true', decide_eq_true_eq] at q
    refine ⟨?_, q.1.2, q.2⟩
    have z := q.1.1
    unfold isGlo at z
    split at z
    · assumption
    · cases z

/-- what is told of the program and of the block -/
structure JC (P : Program) (w : World) (K : PySem.W.Frag) (mg : Str → Option Value) (base : Heap) (N : List Str) (sc : Scope) (vw : Vw) (k : Nat) (X : Cx) (W : WX) : Prop where
  prog : X.prog = P
  ww : X.w = w
  kk : X.K = K
  gg : X.mg = mg
  bb : X.base = base
  nn : X.N = N
  ss : X.env.scope = sc
  sC : Sc N sc vw
  nd : N.Nodup
  calm : X.calm = true
  room : Room k X.A
  tk : Takes X W
  kd : X.env.scope.kind = .function
/-- a def's own body -/
structure JD (P : Program) (w : World) (K : PySem.W.Frag) (mg : Str → Option Value) (base : Heap) (N : List Str) (sc : Scope) (vw : Vw) (k : Nat) (X : Cx) (W : WX) : Prop extends JC P w K mg base N sc vw k X W where
  po : PassesOwn (model X.prog X.w) X.A X.env X.xe
  fn : ∀ x, X.fn x = true
  hs : X.stack = X.env :: X.outer
  hf : X.env.frame = some X.env.locals

section
variable {P : Program} {w : World} {K : PySem.W.Frag} {mg : Str → Option Value} {base : Heap} {N : List Str} {sc : Scope} {vw : Vw} {k : Nat} {X : Cx} {W : WX}
theorem JC.gl (c : JC P w K mg base N sc vw k X W) {x : Str} (h : x ∈ vw.gs) : Gl X x := by
  show X.env.scope.names.lookup x = some .globalImplicit
  rw [c.ss]
  exact (c.sC.gl x h).1
end

/-! ### names, constants -/
def vr (i : Nat) : TEd := fun env S Q _ => match env[i]? with
  | some (some d) => Q d S
  | _ => False
def cn (d : D) : TEd := fun _ S Q _ => Q d S
section
variable {P : Program} {w : World} {K : PySem.W.Frag} {mg : Str → Option Value} {base : Heap} {N : List Str} {sc : Scope} {vw : Vw} {k : Nat} {X : Cx} {W : WX}
theorem moVr (i : Nat) : MoE (vr i) := fun env S Q Q' E E' h _ q => by
  unfold vr at q ⊢
  split at q
  · exact h _ _ q
  · exact q
theorem moCn (d : D) : MoE (cn d) := fun env S Q Q' E E' h _ q => h _ _ q
theorem jv (c : JC P w K mg base N sc vw k X W) (i : Nat) {x : Str} {pos : Pos} (hi : i ∈ vw.vl) (hN : N[i]? = some x) : JE X W (.Name x pos) (vr i) := by
  obtain ⟨v1, v2, v3⟩ := c.sC.vis i hi x hN
  refine ⟨PE.imp (pe_var (i := i) (by rw [c.nn]; exact hN) (by rw [c.ss]; exact v1) v2 v3) fun σ H Q h => ?_, moVr i⟩
  obtain ⟨Z, env, S, re, rs, q⟩ := h
  unfold vr at q
  split at q
  · rename_i d e
    obtain ⟨v, e1, r⟩ := re.at_ i d e
    exact ⟨v, e1, q v H (.refl rs) r⟩
  · exact q.elim
theorem LE.cn {W : WX} {d : D} {v : V} {σ : L2.St} {H : Hp} {Q : VK} (hr : ∀ Z S H, Rp ⟨K, Z⟩ S H d v) (h : LE K W (cn d) σ H Q) : Q v H := by
  obtain ⟨Z, env, S, re, rs, q⟩ := h
  exact q v H (.refl rs) (hr _ _ _)
theorem je_int {i : Int} {j : Nat} {pos : Pos} : JE X W (.Constant (.int i) j pos) (cn (.int i)) := ⟨PE.imp pe_int fun σ H Q h => LE.cn (fun _ _ _ => .int i) h, moCn _⟩
theorem je_bl {b : Bool} {j : Nat} {pos : Pos} : JE X W (.Constant (.bool b) j pos) (cn (.bl b)) := ⟨PE.imp pe_bl fun σ H Q h => LE.cn (fun _ _ _ => .bl b) h, moCn _⟩
/-- a module's constant -/
structure GC (K : PySem.W.Frag) (mg : Str → Option Value) (x : Str) (d : D) : Prop where
  ex : ∃ u v, mg x = some u ∧ RelV v u ∧ ∀ Z S H, Rp ⟨K, Z⟩ S H d v
end

/-! ### two operands -/
abbrev F2 := D → D → Sto → DK → Prop
def MoF2 (f : F2) : Prop := ∀ x y S (Q Q' : DK), (∀ d S, Q d S → Q' d S) → f x y S Q → f x y S Q'
def dTwo (ta tb : TEd) (f : F2) : TEd := fun env S Q E => ta env S (fun x S1 => tb env S1 (fun y S2 => f x y S2 Q) E) E
theorem moTwo {ta tb : TEd} {f : F2} (ha : MoE ta) (hb : MoE tb) (hf : MoF2 f) : MoE (dTwo ta tb f) := fun env S Q Q' E E' h he q =>
  ha _ _ _ _ _ _ (fun x S1 q1 => hb _ _ _ _ _ _ (fun y S2 q2 => hf _ _ _ _ _ h q2) he q1) he q
/-- what is wanted behind, from a state -/
abbrev PQ (K : Kz) (S : Sto) (H : Hp) (Q : VK) : DK := fun d S' => ∀ v H', Aft K S H S' H' → Rp K S' H' d v → Q v H'
theorem PQ.after {K : Kz} {S S1 : Sto} {H H1 : Hp} (a : Aft K S H S1 H1) {Q : VK} {d : D} {S2 : Sto} (h : PQ K S H Q d S2) : PQ K S1 H1 Q d S2 := fun v H' b r => h v H' (a.trans b) r
theorem two {K : PySem.W.Frag} {W : WX} {ta tb : TEd} {f : F2} (ha : MoE ta) (hb : MoE tb) (hf : MoF2 f) {σ : L2.St} {H : Hp} {Q : VK} (h : LE K W (dTwo ta tb f) σ H Q) :
    LE K W ta σ H fun x H1 => LE K W tb σ H1 fun y H2 => ∃ Z S dx dy, RS ⟨K, Z⟩ S H2 ∧ Rp ⟨K, Z⟩ S H2 dx x ∧ Rp ⟨K, Z⟩ S H2 dy y ∧ f dx dy S (PQ ⟨K, Z⟩ S H2 Q) := by
  obtain ⟨Z, env, S, re, rs, q⟩ := h
  refine LE.of ha re rs q (fun dx S1 x H1 q1 a1 r1 => ?_) fun x S1 c dx H1 q1 a1 r1 => q1 c dx H1 a1 r1
  refine LE.of hb (re.step a1.st rs) a1.rs q1 (fun dy S2 y H2 q2 a2 r2 => ?_) fun x S2 c dx H2 q2 a2 r2 => q2 c dx H2 (a1.trans a2) r2
  exact ⟨Z, S2, dx, dy, a2.rs, Rp.step a2.st a1.rs _ _ r1, r2, hf _ _ _ _ _ (fun d S3 q3 => PQ.after (a1.trans a2) q3) q2⟩

/-- an operator of two data -/
structure OpD (X : Cx) (g : Value → Value → Sem Value) (f : F2) : Prop where
  mo : MoF2 f
  run : ∀ (pins : List (Addr × Obj)) (s : Shared) (σ : L2.St) (H : Hp) (x y : V) (v u : Value) (Q : VK) (Z : Addr → Prop) (S : Sto) (dx dy : D), Inv X pins σ H s → RelV x v → RelV y u → RS ⟨X.K, Z⟩ S H → Rp ⟨X.K, Z⟩ S H dx x → Rp ⟨X.K, Z⟩ S H dy y →
    f dx dy S (PQ ⟨X.K, Z⟩ S H Q) → wpAny (model X.prog X.w) X.A (g v u) (EP X pins σ Q) X.xe s
section
variable {X : Cx} {W : WX} {a b : Expr} {ta tb : TEd} {pos : Pos}
theorem je_op {op : Operator} {f : F2} (ho : OpD X (binaryOp op) f) (ha : JE X W a ta) (hb : JE X W b tb) : JE X W (.BinOp a op b pos) (dTwo ta tb f) := by
  refine ⟨⟨fun pins s σ H Q I h => ?_⟩, moTwo ha.mo hb.mo ho.mo⟩
  refine wpAny_BinOp (bin ha.pe hb.pe I (two ha.mo hb.mo ho.mo h) fun v u s2 x y H2 I2 rx ry q => ?_)
  obtain ⟨Z, S, dx, dy, rs, r1, r2, q⟩ := q
  exact ho.run pins s2 σ H2 x y v u Q Z S dx dy I2 rx ry rs r1 r2 q
end

/-! ### tests -/
/-- a value that is a truth, as a test -/
def tbl (t : TEd) : TTd := fun env S Q E => t env S (fun d S' => match d with | .bl b => Q b S' | _ => False) E
theorem moTbl {t : TEd} (h : MoE t) : MoE (tbl t) := fun env S Q Q' E E' hq he q => h _ _ _ _ _ _ (fun d S1 q1 => by
  cases d <;> first | exact hq _ _ q1 | exact q1) he q
theorem tblV {K : PySem.W.Frag} {W : WX} {t : TEd} (mo : MoE t) {σ : L2.St} {H : Hp} {Q : Bool → Hp → Prop} (h : LT K W (tbl t) σ H Q) : LE K W t σ H fun x H1 => ∃ c, x = .bl c ∧ Q c H1 := by
  obtain ⟨Z, env, S, re, rs, q⟩ := h
  refine LE.of mo re rs q (fun d S1 x H1 q1 a1 r1 => ?_) fun x S1 c dx H1 q1 a1 r1 => q1 c dx H1 a1 r1
  cases d <;> first | exact q1.elim | skip
  rename_i b
  cases r1
  exact ⟨b, rfl, q1 H1 a1⟩
/-- any value, by its truth -/
def truD : D → Sto → (Bool → Sto → Prop) → Prop := fun d S Q => match d with
  | .non => Q false S
  | .bl b => Q b S
  | .int i => Q (i != 0) S
  | .str x => x.length ≤ sizeLine ∧ Q ((x.length : Int) != 0) S
  | .tup ds => Q (!ds.isEmpty) S
  | .lst ds => Q (!ds.isEmpty) S
  | .ref a => match S a with | some ds => Q (!ds.isEmpty) S | none => False
  | .obj _ => False
def ttr (t : TEd) : TTd := fun env S Q E => t env S (fun d S' => truD d S' Q) E
theorem moTruD {d : D} {S : Sto} {Q Q' : Bool → Sto → Prop} (h : ∀ b S, Q b S → Q' b S) (q : truD d S Q) : truD d S Q' := by
  unfold truD at q ⊢
  cases d <;> first
    | exact h _ _ q
    | exact ⟨q.1, h _ _ q.2⟩
    | (dsimp only at q ⊢; split at q <;> first | exact h _ _ q | exact q.elim)
    | exact q
theorem moTtr {t : TEd} (h : MoE t) : MoE (ttr t) := fun env S Q Q' E E' hq he q => h _ _ _ _ _ _ (fun d S1 q1 => moTruD hq q1) he q
theorem isEmpty_rpl {K : Kz} {S : Sto} {H : Hp} {ds : List D} {vs : List V} (r : RpL K S H ds vs) : ds.isEmpty = vs.isEmpty := by
  cases r <;> rfl
theorem SqL.ofK {K : PySem.W.Frag} {H : Hp} {a : Addr} {vs : List V} (h : KL K a vs) : SqL K H a vs := .inr h
theorem truV {K : Kz} {S : Sto} {H : Hp} {d : D} {v : V} (rs : RS K S H) (r : Rp K S H d v) {Q : Bool → Hp → Prop} (q : truD d S fun b S' => ∀ H', Aft K S H S' H' → Q b H') : ∃ k, TruV K.K v H k ∧ Q k H := by
  have a0 : Aft K S H S H := .refl rs
  cases r with
  | non => exact ⟨false, rfl, q H a0⟩
  | bl b => exact ⟨b, rfl, q H a0⟩
  | int i => exact ⟨_, rfl, q H a0⟩
  | str x => exact ⟨_, ⟨q.1, rfl⟩, q.2 H a0⟩
  | tup hs ha => exact ⟨_, .inr (.inl ⟨_, hs, rfl⟩), by rw [← isEmpty_rpl ha]; exact q H a0⟩
  | lst hs hn hz ha => exact ⟨_, .inl ⟨_, .inl hs, rfl⟩, by rw [← isEmpty_rpl ha]; exact q H a0⟩
  | lstK hs ha => exact ⟨_, .inl ⟨_, SqL.ofK hs, rfl⟩, by rw [← isEmpty_rpl ha]; exact q H a0⟩
  | ref a =>
    unfold truD at q
    dsimp only at q
    split at q
    · rename_i ds e
      obtain ⟨vs, e1, r1⟩ := rs.at_ a ds e
      exact ⟨_, .inl ⟨_, SqL.of e1, rfl⟩, by rw [← isEmpty_rpl r1]; exact q H a0⟩
    · exact q.elim
  | obj a => exact q.elim
def tAndD (t u : TTd) : TTd := fun env S Q E => t env S (fun c S1 => if c = true then u env S1 Q E else Q false S1) E
def tOrD (t u : TTd) : TTd := fun env S Q E => t env S (fun c S1 => if c = true then Q true S1 else u env S1 Q E) E
def tNotD (t : TTd) : TTd := fun env S Q E => t env S (fun c S1 => Q (!c) S1) E
/-- and, or, not, a comparison as values: truths -/
def vOf (t : TTd) : TEd := fun env S Q E => t env S (fun c S1 => Q (.bl c) S1) E
def eIf (t : TTd) (ta tb : TEd) : TEd := fun env S Q E => t env S (fun c S1 => if c = true then ta env S1 Q E else tb env S1 Q E) E
section
variable {X : Cx} {W : WX} {a b : Expr} {ta tb : TEd} {pos : Pos} {t u : TTd} {rest : List Expr}
theorem jt_tru (h : JE X W a ta) (he : ∀ whole, isTrue a X.env whole = (do let v ← whole; standAt a.pos; holding [v] (truthy v)) := by intro _; rfl) : JT X W a (ttr ta) := by
  refine ⟨PT.imp (pt_truth h.pe he) fun σ H Q q => ?_, moTtr h.mo⟩
  obtain ⟨Z, env, S, re, rs, q⟩ := q
  refine LE.of h.mo re rs q (fun d S1 x H1 q1 a1 r1 => ?_) fun x S1 c dx H1 q1 a1 r1 => q1 c dx H1 a1 r1
  exact truV a1.rs r1 (moTruD (fun b S2 q2 H2 a2 => q2 H2 (a1.trans a2)) q1)
theorem jt_cmp {op : CmpOp} {f : F2} (ho : OpD X (compareOp op) f) (ha : JE X W a ta) (hb : JE X W b tb) (hm : behindInMarks op b = false) : JT X W (.Compare a [op] [b] pos) (tbl (dTwo ta tb f)) := by
  refine ⟨⟨fun pins s σ H Q I h => ?_⟩, moTbl (moTwo ha.mo hb.mo ho.mo)⟩
  refine wpAny_isTrue_Compare1 (thn (bin ha.pe hb.pe I (two ha.mo hb.mo ho.mo (tblV (moTwo ha.mo hb.mo ho.mo) h)) fun v u s2 x y H2 I2 rx ry q => ?_) fun v s1 h1 => thn h1 fun u s2 h2 => thn h2 fun c s3 z => z) hm
  obtain ⟨Z, S, dx, dy, rs, r1, r2, q⟩ := q
  refine thn (ho.run pins s2 σ H2 x y v u _ Z S dx dy I2 rx ry rs r1 r2 q) fun c s3 ⟨x, H1, I1, r1, q1⟩ => ?_
  obtain ⟨d, rfl, q⟩ := q1
  cases r1
  exact wpAny_truthy_bool ⟨H1, I1, q⟩
theorem jt_w (h : JW X W a t) : JT X W a t := ⟨h.pw.pt, h.mo⟩
theorem moAndD (h : MoE t) (h2 : MoE u) : MoE (tAndD t u) := fun env S Q Q' E E' hq he q => h _ _ _ _ _ _ (fun c S1 q1 => by
  cases c
  · exact hq _ _ q1
  · exact h2 _ _ _ _ _ _ hq he q1) he q
theorem moOrD (h : MoE t) (h2 : MoE u) : MoE (tOrD t u) := fun env S Q Q' E E' hq he q => h _ _ _ _ _ _ (fun c S1 q1 => by
  cases c
  · exact h2 _ _ _ _ _ _ hq he q1
  · exact hq _ _ q1) he q
theorem moNotD (h : MoE t) : MoE (tNotD t) := fun env S Q Q' E E' hq he q => h _ _ _ _ _ _ (fun c S1 q1 => hq _ _ q1) he q
theorem moVOf (h : MoE t) : MoE (vOf t) := fun env S Q Q' E E' hq he q => h _ _ _ _ _ _ (fun c S1 q1 => hq _ _ q1) he q
theorem moEIf (h : MoE t) (ha : MoE ta) (hb : MoE tb) : MoE (eIf t ta tb) := fun env S Q Q' E E' hq he q => h _ _ _ _ _ _ (fun c S1 q1 => by
  cases c
  · exact hb _ _ _ _ _ _ hq he q1
  · exact ha _ _ _ _ _ _ hq he q1) he q
theorem jw_or1 (ha : JT X W a t) : JW X W (.BoolOp .Or [a] pos) t := ⟨pw_or1 ha.pt, ha.mo⟩
theorem jw_or (ha : JT X W a t) (hb : JW X W (.BoolOp .Or (b :: rest) pos) u) : JW X W (.BoolOp .Or (a :: b :: rest) pos) (tOrD t u) := by
  refine ⟨PW.imp (pw_or ha.pt hb.pw) fun σ H Q h => ?_, moOrD ha.mo hb.mo⟩
  obtain ⟨Z, env, S, re, rs, q⟩ := h
  refine LT.of ha.mo re rs q (fun c S1 H1 q1 a1 => ?_) fun x S1 c dx H1 q1 a1 r1 => q1 c dx H1 a1 r1
  cases c with
  | true => exact iteT (q1 H1 a1)
  | false => exact iteF (LT.of hb.mo (re.step a1.st rs) a1.rs q1 (fun c2 S2 H2 q2 a2 => q2 H2 (a1.trans a2)) fun x S2 c dx H2 q2 a2 r2 => q2 c dx H2 (a1.trans a2) r2)
theorem jt_not (ha : JT X W a t) : JT X W (.UnaryOp .Not a pos) (tNotD t) := by
  refine ⟨PT.imp (pt_not ha.pt) fun σ H Q h => ?_, moNotD ha.mo⟩
  obtain ⟨Z, env, S, re, rs, q⟩ := h
  exact LT.of ha.mo re rs q (fun c S1 H1 q1 a1 => q1 H1 a1) fun x S1 c dx H1 q1 a1 r1 => q1 c dx H1 a1 r1
/-! truths as values -/
theorem je_one {op : BoolOp} (h : JE X W a ta) : JE X W (.BoolOp op [a] pos) ta := ⟨pe_one h.pe, h.mo⟩
theorem je_and (ha : JE X W a ta) (hb : JE X W (.BoolOp .And (b :: rest) pos) tb) : JE X W (.BoolOp .And (a :: b :: rest) pos) (eIf (tbl ta) tb (cn (.bl false))) := by
  refine ⟨PE.imp (pe_and ha.pe hb.pe) fun σ H Q h => ?_, moEIf (moTbl ha.mo) hb.mo (moCn _)⟩
  obtain ⟨Z, env, S, re, rs, q⟩ := h
  refine LE.of ha.mo re rs q (fun d S1 x H1 q1 a1 r1 => ?_) fun x S1 c dx H1 q1 a1 r1 => q1 c dx H1 a1 r1
  cases d <;> first | exact q1.elim | skip
  rename_i c
  cases r1
  refine ⟨c, rfl, ?_⟩
  cases c with
  | true => exact iteT (LE.of hb.mo (re.step a1.st rs) a1.rs q1 (fun d S2 v H2 q2 a2 r2 => q2 v H2 (a1.trans a2) r2) fun x S2 c dx H2 q2 a2 r2 => q2 c dx H2 (a1.trans a2) r2)
  | false => exact iteF (q1 _ H1 a1 (.bl false))
def vNot (ta : TEd) : TEd := vOf (tNotD (tbl ta))
theorem je_not (ha : JE X W a ta) : JE X W (.UnaryOp .Not a pos) (vNot ta) := by
  refine ⟨PE.imp (pe_not ha.pe) fun σ H Q h => ?_, moVOf (moNotD (moTbl ha.mo))⟩
  obtain ⟨Z, env, S, re, rs, q⟩ := h
  refine LE.of ha.mo re rs q (fun d S1 x H1 q1 a1 r1 => ?_) fun x S1 c dx H1 q1 a1 r1 => q1 c dx H1 a1 r1
  cases d <;> first | exact q1.elim | skip
  rename_i c
  cases r1
  exact ⟨c, rfl, q1 _ H1 a1 (.bl _)⟩
end

/-! ### whole numbers -/
def CMul' (i j : Int) : Prop := i.natAbs.log2 + j.natAbs.log2 < 1000000
def CDiv' (j : Int) : Prop := j ≠ 0 ∧ j.natAbs.log2 < 9000
def fAdd : F2 := fun x y S Q => match x, y with
  | .int i, .int j => Q (.int (i + j)) S
  | .str i, .str j => i.length + j.length ≤ sizeLine ∧ Q (.str (i ++ j)) S
  | .tup a, .tup b => a.length + b.length ≤ sizeLine ∧ Q (.tup (a ++ b)) S
  | _, _ => False
def fSub : F2 := fun x y S Q => match x, y with
  | .int i, .int j => Q (.int (i - j)) S
  | _, _ => False
def fMul : F2 := fun x y S Q => match x, y with
  | .int i, .int j => CMul' i j ∧ Q (.int (i * j)) S
  | _, _ => False
def fDiv : F2 := fun x y S Q => match x, y with
  | .int i, .int j => CDiv' j ∧ Q (.int (i.fdiv j)) S
  | _, _ => False
def fMod : F2 := fun x y S Q => match x, y with
  | .int i, .int j => j ≠ 0 ∧ Q (.int (i.fmod j)) S
  | _, _ => False
def fPow : F2 := fun x y S Q => match x, y with
  | .int i, .int j => 0 ≤ j ∧ (Builtin.Int.intBits i : Int) * j ≤ 2 ^ 27 ∧ Q (.int (i ^ j.toNat)) S
  | _, _ => False
def fShl : F2 := fun x y S Q => match x, y with
  | .int i, .int j => (0 ≤ j ∧ j ≤ 1000000 ∧ i.natAbs < 2 ^ 64) ∧ Q (.int (i * 2 ^ j.toNat)) S
  | _, _ => False
def fLt : F2 := fun x y S Q => match x, y with
  | .int i, .int j => Q (.bl (decide (i < j))) S
  | _, _ => False
def fLe : F2 := fun x y S Q => match x, y with
  | .int i, .int j => Q (.bl (decide (i ≤ j))) S
  | _, _ => False
def fGt : F2 := fun x y S Q => match x, y with
  | .int i, .int j => Q (.bl (decide (j < i))) S
  | _, _ => False
def fGe : F2 := fun x y S Q => match x, y with
  | .int i, .int j => Q (.bl (decide (j ≤ i))) S
  | _, _ => False
theorem moAdd : MoF2 fAdd := by (intro x y S Q Q' h q; unfold fAdd at q ⊢; split at q <;> first | exact h _ _ q | exact ⟨q.1, h _ _ q.2⟩ | exact ⟨q.1, q.2.1, h _ _ q.2.2⟩ | exact q.elim)
theorem moSub : MoF2 fSub := by (intro x y S Q Q' h q; unfold fSub at q ⊢; split at q <;> first | exact h _ _ q | exact ⟨q.1, h _ _ q.2⟩ | exact ⟨q.1, q.2.1, h _ _ q.2.2⟩ | exact q.elim)
theorem moMul : MoF2 fMul := by (intro x y S Q Q' h q; unfold fMul at q ⊢; split at q <;> first | exact h _ _ q | exact ⟨q.1, h _ _ q.2⟩ | exact ⟨q.1, q.2.1, h _ _ q.2.2⟩ | exact q.elim)
theorem moDiv : MoF2 fDiv := by (intro x y S Q Q' h q; unfold fDiv at q ⊢; split at q <;> first | exact h _ _ q | exact ⟨q.1, h _ _ q.2⟩ | exact ⟨q.1, q.2.1, h _ _ q.2.2⟩ | exact q.elim)
theorem moMod : MoF2 fMod := by (intro x y S Q Q' h q; unfold fMod at q ⊢; split at q <;> first | exact h _ _ q | exact ⟨q.1, h _ _ q.2⟩ | exact ⟨q.1, q.2.1, h _ _ q.2.2⟩ | exact q.elim)
theorem moPow : MoF2 fPow := by (intro x y S Q Q' h q; unfold fPow at q ⊢; split at q <;> first | exact h _ _ q | exact ⟨q.1, h _ _ q.2⟩ | exact ⟨q.1, q.2.1, h _ _ q.2.2⟩ | exact q.elim)
theorem moShl : MoF2 fShl := by (intro x y S Q Q' h q; unfold fShl at q ⊢; split at q <;> first | exact h _ _ q | exact ⟨q.1, h _ _ q.2⟩ | exact ⟨q.1, q.2.1, h _ _ q.2.2⟩ | exact q.elim)
theorem moLt : MoF2 fLt := by (intro x y S Q Q' h q; unfold fLt at q ⊢; split at q <;> first | exact h _ _ q | exact ⟨q.1, h _ _ q.2⟩ | exact ⟨q.1, q.2.1, h _ _ q.2.2⟩ | exact q.elim)
theorem moLe : MoF2 fLe := by (intro x y S Q Q' h q; unfold fLe at q ⊢; split at q <;> first | exact h _ _ q | exact ⟨q.1, h _ _ q.2⟩ | exact ⟨q.1, q.2.1, h _ _ q.2.2⟩ | exact q.elim)
theorem moGt : MoF2 fGt := by (intro x y S Q Q' h q; unfold fGt at q ⊢; split at q <;> first | exact h _ _ q | exact ⟨q.1, h _ _ q.2⟩ | exact ⟨q.1, q.2.1, h _ _ q.2.2⟩ | exact q.elim)
theorem moGe : MoF2 fGe := by (intro x y S Q Q' h q; unfold fGe at q ⊢; split at q <;> first | exact h _ _ q | exact ⟨q.1, h _ _ q.2⟩ | exact ⟨q.1, q.2.1, h _ _ q.2.2⟩ | exact q.elim)
theorem RS.newN {K : Kz} {S : Sto} {H : Hp} {p : Addr} {o : HO} (rs : RS K S H) (hp : H p = none) : Aft K S H S (upd H p o) := by
  have st : Step S H S (upd H p o) := fun b u h n => ⟨n, by rw [upd_ne (ne_of_none h hp)]; exact h⟩
  refine ⟨st, fun a es e => ?_, fun b hb => ?_⟩
  · obtain ⟨ws, q, r⟩ := rs.at_ a es e
    exact ⟨ws, by rw [upd_ne (ne_of_none q hp)]; exact q, RpL.step st rs _ _ r⟩
  · obtain ⟨n, vs, q⟩ := rs.hid b hb
    exact ⟨n, vs, by rw [upd_ne (ne_of_none q hp)]; exact q⟩
theorem RS.nz {K : Kz} {S : Sto} {H : Hp} {p : Addr} (rs : RS K S H) (hp : H p = none) : ¬ K.Z p := fun z => by
  obtain ⟨_, vs, q⟩ := rs.hid p z
  rw [hp] at q
  cases q
theorem Rp.newT {K : Kz} {S : Sto} {H : Hp} {ds : List D} {vs : List V} {p : Addr} (rs : RS K S H) (hp : H p = none) (r : RpL K S H ds vs) : Aft K S H S (upd H p (.tup vs)) ∧ Rp K S (upd H p (.tup vs)) (.tup ds) (.ref p) := by
  have a := rs.newN (o := .tup vs) hp
  exact ⟨a, .tup (SqT.of upd_same) (RpL.step a.st rs _ _ r)⟩
theorem Rp.newL {K : Kz} {S : Sto} {H : Hp} {ds : List D} {vs : List V} {p : Addr} (rs : RS K S H) (hp : H p = none) (r : RpL K S H ds vs) : Aft K S H S (upd H p (.lst vs)) ∧ Rp K S (upd H p (.lst vs)) (.lst ds) (.ref p) := by
  have a := rs.newN (o := .lst vs) hp
  exact ⟨a, .lst (.inl upd_same) (rs.free hp) (rs.nz hp) (RpL.step a.st rs _ _ r)⟩
/-- a grown list's items are told anew -/
theorem RS.tell {K : Kz} {S S' : Sto} {H H' : Hp} {ds : List D} {vs : List V} {p : Addr} (rs : RS K S H) (st : Step S H (sup S p ds) (upd H p (.lst vs))) (nz : ¬ K.Z p) (r : RpL K S H ds vs) : Aft K S H (sup S p ds) (upd H p (.lst vs)) := by
  refine ⟨st, fun a es e => ?_, fun b hb => ?_⟩
  · by_cases ha : a = p
    · subst ha
      rw [sup_same] at e
      cases e
      exact ⟨vs, upd_same, RpL.step st rs _ _ r⟩
    · rw [sup_ne ha] at e
      obtain ⟨ws, q, r⟩ := rs.at_ a es e
      exact ⟨ws, by rw [upd_ne ha]; exact q, RpL.step st rs _ _ r⟩
  · have ne : b ≠ p := fun z => nz (z ▸ hb)
    obtain ⟨n, ws, q⟩ := rs.hid b hb
    exact ⟨by rw [sup_ne ne]; exact n, ws, by rw [upd_ne ne]; exact q⟩
/-- a list that is to be grown -/
theorem Rp.newR {K : Kz} {S : Sto} {H : Hp} {ds : List D} {vs : List V} {p : Addr} (rs : RS K S H) (hp : H p = none) (r : RpL K S H ds vs) : Aft K S H (sup S p ds) (upd H p (.lst vs)) :=
  rs.tell (S' := S) (H' := H) (fun b o h n => ⟨by rw [sup_ne (ne_of_none h hp)]; exact n, by rw [upd_ne (ne_of_none h hp)]; exact h⟩) (rs.nz hp) r
theorem RS.nzS {K : Kz} {S : Sto} {H : Hp} {p : Addr} {es : List D} (rs : RS K S H) (hp : S p = some es) : ¬ K.Z p := fun z => by
  have n := (rs.hid p z).1
  rw [hp] at n
  cases n
/-- a grown list is written -/
theorem Rp.putR {K : Kz} {S : Sto} {H : Hp} {ds es : List D} {vs : List V} {p : Addr} (rs : RS K S H) (hp : S p = some es) (r : RpL K S H ds vs) : Aft K S H (sup S p ds) (upd H p (.lst vs)) := by
  have np : ∀ b, S b = none → b ≠ p := fun b n e => by rw [e, hp] at n; cases n
  exact rs.tell (S' := S) (H' := H) (fun b o h n => ⟨by rw [sup_ne (np b n)]; exact n, by rw [upd_ne (np b n)]; exact h⟩) (rs.nzS hp) r
/-- a grown list is grown no more -/
theorem Rp.frz {K : Kz} {S : Sto} {H : Hp} {ds : List D} {p : Addr} (rs : RS K S H) (hp : S p = some ds) : Aft K S H (sdel S p) H ∧ Rp K (sdel S p) H (.lst ds) (.ref p) := by
  have np : ∀ b, S b = none → b ≠ p := fun b n e => by rw [e, hp] at n; cases n
  have st : Step S H (sdel S p) H := fun b o h n => ⟨by rw [sdel_ne (np b n)]; exact n, h⟩
  obtain ⟨vs, e, r⟩ := rs.at_ p ds hp
  refine ⟨⟨st, fun a es q => ?_, fun b hb => ?_⟩, .lst (.inl e) sdel_same (rs.nzS hp) (RpL.step st rs _ _ r)⟩
  · by_cases ha : a = p
    · subst ha
      rw [sdel_same] at q
      cases q
    · rw [sdel_ne ha] at q
      obtain ⟨ws, z, r⟩ := rs.at_ a es q
      exact ⟨ws, z, RpL.step st rs _ _ r⟩
  · obtain ⟨n, q⟩ := rs.hid b hb
    exact ⟨by rw [sdel_ne (np b n)]; exact n, q⟩
section
variable {X : Cx}
theorem opD_add : OpD X (binaryOp .Add) fAdd := by
  refine ⟨moAdd, fun pins s σ H x y v u Q Z S dx dy I rx ry rs r1 r2 h => ?_⟩
  cases r1 with
  | int i =>
    cases r2 with
    | int j => exact op_add pins s σ H _ _ v u Q I rx ry ⟨i, j, rfl, rfl, h _ H (.refl rs) (.int _)⟩
    | _ => exact h.elim
  | str i =>
    cases r2 with
    | str j => exact op_add_str pins s σ H _ _ v u Q I rx ry ⟨i, j, rfl, rfl, h.1, h.2 _ H (.refl rs) (.str _)⟩
    | _ => exact h.elim
  | tup hs ha =>
    cases r2 with
    | tup hs2 ha2 =>
      rename_i a xs ds b ys es
      have l1 := ha.length
      have l2 := ha2.length
      refine op_catA pins s σ H _ _ v u Q I rx ry ⟨a, b, xs, ys, rfl, rfl, hs, hs2, by rw [← l1, ← l2]; exact h.1, fun e => ?_, fun _ e => ?_, fun _ _ p hp => ?_⟩
      · subst e
        cases ha
        exact h.2 _ H (.refl rs) (.tup hs2 ha2)
      · subst e
        cases ha2
        exact h.2 _ H (.refl rs) (by rw [List.append_nil]; exact .tup hs ha)
      · obtain ⟨a1, r⟩ := Rp.newT rs hp (ha.append ha2)
        exact h.2 _ _ a1 r
    | _ => exact h.elim
  | _ => cases r2 <;> exact h.elim
theorem opD_sub : OpD X (binaryOp .Sub) fSub := by
  refine ⟨moSub, fun pins s σ H x y v u Q Z S dx dy I rx ry rs r1 r2 h => ?_⟩
  cases r1 <;> cases r2 <;> first | exact h.elim | skip
  exact op_sub pins s σ H _ _ v u Q I rx ry ⟨_, _, rfl, rfl, h _ H (.refl rs) (.int _)⟩
theorem opD_mul : OpD X (binaryOp .Mult) fMul := by
  refine ⟨moMul, fun pins s σ H x y v u Q Z S dx dy I rx ry rs r1 r2 h => ?_⟩
  cases r1 <;> cases r2 <;> first | exact h.elim | skip
  exact op_mulW pins s σ H _ _ v u Q I rx ry ⟨_, _, rfl, rfl, h.1, h.2 _ H (.refl rs) (.int _)⟩
theorem opD_div : OpD X (binaryOp .FloorDiv) fDiv := by
  refine ⟨moDiv, fun pins s σ H x y v u Q Z S dx dy I rx ry rs r1 r2 h => ?_⟩
  cases r1 <;> cases r2 <;> first | exact h.elim | skip
  obtain ⟨t, rfl⟩ := rx
  obtain ⟨t', rfl⟩ := ry
  exact floordiv_int h.1.1 ⟨.int _, H, I.tok _, ⟨_, rfl⟩, h.2 _ H (.refl rs) (.int _)⟩ (.inl (PyProof.noPylong_of_log2 h.1.2))
theorem opD_mod : OpD X (binaryOp .Mod) fMod := by
  refine ⟨moMod, fun pins s σ H x y v u Q Z S dx dy I rx ry rs r1 r2 h => ?_⟩
  cases r1 <;> cases r2 <;> first | exact h.elim | skip
  exact op_modN pins s σ H _ _ v u Q I rx ry ⟨_, _, rfl, rfl, h.1, h.2 _ H (.refl rs) (.int _)⟩
theorem opD_pow : OpD X (binaryOp .Pow) fPow := by
  refine ⟨moPow, fun pins s σ H x y v u Q Z S dx dy I rx ry rs r1 r2 h => ?_⟩
  cases r1 <;> cases r2 <;> first | exact h.elim | skip
  obtain ⟨t, rfl⟩ := rx
  obtain ⟨t', rfl⟩ := ry
  exact pow_int h.1 h.2.1 ⟨.int _, H, I.tok _, ⟨_, rfl⟩, h.2.2 _ H (.refl rs) (.int _)⟩
theorem opD_lt : OpD X (compareOp .Lt) fLt := by
  refine ⟨moLt, fun pins s σ H x y v u Q Z S dx dy I rx ry rs r1 r2 h => ?_⟩
  cases r1 <;> cases r2 <;> first | exact h.elim | skip
  exact op_lt pins s σ H _ _ v u Q I rx ry ⟨_, _, rfl, rfl, h _ H (.refl rs) (.bl _)⟩
theorem opD_gt : OpD X (compareOp .Gt) fGt := by
  refine ⟨moGt, fun pins s σ H x y v u Q Z S dx dy I rx ry rs r1 r2 h => ?_⟩
  cases r1 <;> cases r2 <;> first | exact h.elim | skip
  exact op_gt pins s σ H _ _ v u Q I rx ry ⟨_, _, rfl, rfl, h _ H (.refl rs) (.bl _)⟩
end
end Bl

namespace Bl
open PySem PySem.Spec PyProof.Rows L2

/-! ### equality -/
mutual
def py : D → PyData
  | .non => .none
  | .bl b => .bool b
  | .int i => .int i
  | .str x => .str x
  | .tup ds => .tuple (pyL ds)
  | .lst ds => .list (pyL ds)
  | .ref _ => .none
  | .obj _ => .none
def pyL : List D → List PyData
  | [] => []
  | d :: ds => py d :: pyL ds
end
mutual
/-- no address within -/
def pl : D → Bool
  | .non => true
  | .bl _ => true
  | .int _ => true
  | .str _ => true
  | .tup ds => plL ds
  | .lst ds => plL ds
  | .ref _ => false
  | .obj _ => false
def plL : List D → Bool
  | [] => true
  | d :: ds => pl d && plL ds
end
section
variable {K : Kz} {S : Sto} {H : Hp}
mutual
theorem Rp.dp : ∀ (d : D) (v : V), pl d = true → Rp K S H d v → Dp K.K H v (py d)
  | .non, _, _, h => by cases h; exact .non
  | .bl b, _, _, h => by cases h; exact .bl b
  | .int i, _, _, h => by cases h; exact .int i
  | .str x, _, _, h => by cases h; exact .str x
  | .tup ds, _, p, h => by
    cases h with
    | tup hs ha => exact .tup hs (RpL.dp ds _ p ha)
  | .lst ds, _, p, h => by
    cases h with
    | lst hs hn hz ha => exact .lst (.inl hs) (RpL.dp ds _ p ha)
    | lstK hs ha => exact .lst (SqL.ofK hs) (RpL.dp ds _ p ha)
  | .ref _, _, p, _ => by cases p
  | .obj _, _, p, _ => by cases p
theorem RpL.dp : ∀ (ds : List D) (vs : List V), plL ds = true → RpL K S H ds vs → DpAll K.K H vs (pyL ds)
  | [], _, _, h => by cases h; exact .nil
  | d :: ds, _, p, h => by
    have p' : (pl d && plL ds) = true := p
    rw [Bool.and_eq_true] at p'
    cases h with
    | cons h1 h2 => exact .cons (Rp.dp d _ p'.1 h1) (RpL.dp ds _ p'.2 h2)
end
end
/-- data that == takes -/
def okD (d : D) : Prop := pl d = true ∧ SeqAt.shaped (py d) = true
def eqD (x y : D) : Bool := PyData.eqv (py x) (py y)
def fEq : F2 := fun x y S Q => okD x ∧ okD y ∧ Q (.bl (eqD x y)) S
def fNe : F2 := fun x y S Q => okD x ∧ okD y ∧ Q (.bl (!eqD x y)) S
theorem moEq : MoF2 fEq := fun x y S Q Q' h q => ⟨q.1, q.2.1, h _ _ q.2.2⟩
theorem moNe : MoF2 fNe := fun x y S Q Q' h q => ⟨q.1, q.2.1, h _ _ q.2.2⟩
def isN : D → Bool
  | .non => true
  | _ => false
def fIs : F2 := fun x y S Q => match y with
  | .non => Q (.bl (isN x)) S
  | _ => False
def fIsNot : F2 := fun x y S Q => match y with
  | .non => Q (.bl (!isN x)) S
  | _ => False
theorem moIs : MoF2 fIs := fun x y S Q Q' h q => by
  unfold fIs at q ⊢
  split at q <;> first | exact h _ _ q | exact q
theorem moIsNot : MoF2 fIsNot := fun x y S Q Q' h q => by
  unfold fIsNot at q ⊢
  split at q <;> first | exact h _ _ q | exact q
/-- in a list, a tuple of data; a text in a text -/
def fIn (neg : Bool) : F2 := fun x y S Q => match y with
  | .lst ds => okD x ∧ okD (.lst ds) ∧ Q (.bl (xor neg (ds.any fun z => eqD z x))) S
  | .tup ds => okD x ∧ okD (.tup ds) ∧ Q (.bl (xor neg (ds.any fun z => eqD z x))) S
  | .str j => match x with
    | .str i => Q (.bl (xor neg (!(Builtin.Str.occurrences j i 0 j.length 1).isEmpty))) S
    | _ => False
  | _ => False
theorem moIn (neg : Bool) : MoF2 (fIn neg) := fun x y S Q Q' h q => by
  unfold fIn at q ⊢
  cases y <;> first
    | exact ⟨q.1, q.2.1, h _ _ q.2.2⟩
    | (cases x <;> first | exact h _ _ q | exact q)
    | exact q
section
variable {X : Cx}
theorem opD_ne {k : Nat} (hr : Room k X.A) : OpD X (compareOp .NotEq) fNe := by
  refine ⟨moNe, fun pins s σ H x y v u Q Z S dx dy I rx ry rs r1 r2 h => ?_⟩
  exact op_neD hr.units pins s σ H _ _ v u Q I rx ry ⟨_, _, Rp.dp _ _ h.1.1 r1, Rp.dp _ _ h.2.1.1 r2, h.1.2, h.2.1.2, h.2.2 _ H (.refl rs) (.bl _)⟩
end

/-! ### -a -/
def dNeg (t : TEd) : TEd := fun env S Q E => t env S (fun d S' => match d with | .int i => Q (.int (-i)) S' | _ => False) E
theorem moNeg {t : TEd} (h : MoE t) : MoE (dNeg t) := fun env S Q Q' E E' hq he q => h _ _ _ _ _ _ (fun d S1 q1 => by
  cases d <;> first | exact hq _ _ q1 | exact q1) he q
section
variable {X : Cx} {W : WX} {a b c : Expr} {ta tb tc : TEd} {pos : Pos}
/-- a op b op c, the two answers truths -/
def dChain (ta tb tc : TEd) (f g : F2) : TEd := fun env S Q E => ta env S (fun x S1 => tb env S1 (fun y S2 => f x y S2 (fun d S3 => match d with
  | .bl true => tc env S3 (fun z S4 => g y z S4 Q) E
  | .bl false => Q (.bl false) S3
  | _ => False)) E) E
theorem moChain {f g : F2} (ha : MoE ta) (hb : MoE tb) (hc : MoE tc) (hf : MoF2 f) (hg : MoF2 g) : MoE (dChain ta tb tc f g) := fun env S Q Q' E E' h he q =>
  ha _ _ _ _ _ _ (fun x S1 q1 => hb _ _ _ _ _ _ (fun y S2 q2 => hf _ _ _ _ _ (fun d S3 q3 => by
    cases d <;> first | exact q3 | skip
    rename_i b
    cases b
    · exact h _ _ q3
    · exact hc _ _ _ _ _ _ (fun z S4 q4 => hg _ _ _ _ _ h q4) he q3) q2) he q1) he q
/-- OpD's answer, as a relation of the layer's -/
def rD (K : PySem.W.Frag) (f : F2) : R2 := fun x y H Q => ∃ Z S dx dy, RS ⟨K, Z⟩ S H ∧ Rp ⟨K, Z⟩ S H dx x ∧ Rp ⟨K, Z⟩ S H dy y ∧ f dx dy S (PQ ⟨K, Z⟩ S H Q)
theorem OpD.op {g : Value → Value → Sem Value} {f : F2} (h : OpD X g f) : OpR X g (rD X.K f) := fun pins s σ H x y v u Q I rx ry ⟨Z, S, dx, dy, rs, r1, r2, q⟩ => h.run pins s σ H x y v u Q Z S dx dy I rx ry rs r1 r2 q
end

/-! ### argument lists, displays -/
def aNil : TAd := fun _ S Q _ => Q [] S
def aCons (t : TEd) (u : TAd) : TAd := fun env S Q E => t env S (fun d S1 => u env S1 (fun ds S2 => Q (d :: ds) S2) E) E
def dTup (t : TAd) : TEd := fun env S Q E => t env S (fun ds S1 => ds.length ≤ sizeLine ∧ Q (.tup ds) S1) E
def dLst (t : TAd) : TEd := fun env S Q E => t env S (fun ds S1 => ds.length ≤ sizeLine ∧ Q (.lst ds) S1) E
def dLstR (t : TAd) : TEd := fun env S Q E => t env S (fun ds S1 => ds.length ≤ sizeLine ∧ ∀ a, S1 a = none → Q (.ref a) (sup S1 a ds)) E
theorem moNilA : MoE aNil := fun env S Q Q' E E' h he q => h _ _ q
theorem moConsA {t : TEd} {u : TAd} (ht : MoE t) (hu : MoE u) : MoE (aCons t u) := fun env S Q Q' E E' h he q =>
  ht _ _ _ _ _ _ (fun d S1 q1 => hu _ _ _ _ _ _ (fun ds S2 q2 => h _ _ q2) he q1) he q
theorem moTup {t : TAd} (ht : MoE t) : MoE (dTup t) := fun env S Q Q' E E' h he q => ht _ _ _ _ _ _ (fun ds S1 q1 => ⟨q1.1, h _ _ q1.2⟩) he q
theorem moLst {t : TAd} (ht : MoE t) : MoE (dLst t) := fun env S Q Q' E E' h he q => ht _ _ _ _ _ _ (fun ds S1 q1 => ⟨q1.1, h _ _ q1.2⟩) he q
theorem moLstR {t : TAd} (ht : MoE t) : MoE (dLstR t) := fun env S Q Q' E E' h he q => ht _ _ _ _ _ _ (fun ds S1 q1 => ⟨q1.1, fun a n => h _ _ (q1.2 a n)⟩) he q
section
variable {X : Cx} {W : WX} {e : Expr} {es : List Expr} {t : TEd} {u : TAd} {pos : Pos}
theorem LA.cons {K : PySem.W.Frag} {t : TEd} {u : TAd} (ht : MoE t) (hu : MoE u) {σ : L2.St} {H : Hp} {Q : List V → Hp → Prop} (h : LA K W (aCons t u) σ H Q) : LE K W t σ H fun x H1 => LA K W u σ H1 fun xs H2 => Q (x :: xs) H2 := by
  obtain ⟨Z, env, S, re, rs, q⟩ := h
  refine LE.of ht re rs q (fun d S1 x H1 q1 a1 r1 => ?_) fun x S1 c dx H1 q1 a1 r1 => q1 c dx H1 a1 r1
  exact LA.of hu (re.step a1.st rs) a1.rs q1 (fun ds S2 vs H2 q2 a2 r2 => q2 _ H2 (a1.trans a2) (.cons (Rp.step a2.st a1.rs _ _ r1) r2)) fun x S2 c dx H2 q2 a2 r2 => q2 c dx H2 (a1.trans a2) r2
theorem ja_nil : JA X W [] aNil := ⟨PA.imp pa_nil fun σ H Q h => by
  obtain ⟨Z, env, S, re, rs, q⟩ := h
  exact q [] H (.refl rs) .nil, moNilA⟩
theorem ja_cons (ha : JE X W e t) (hr : JA X W es u) (hs : starEach (e :: es) X.env = (false, eval e X.env) :: starEach es X.env := by rfl) : JA X W (e :: es) (aCons t u) :=
  ⟨PA.imp (pa_cons ha.pe hr.pa hs) fun σ H Q h => LA.cons ha.mo hr.mo h, moConsA ha.mo hr.mo⟩
theorem je_tup {x1 : Nat} (h : JA X W es u) : JE X W (.Tuple es x1 pos) (dTup u) := by
  refine ⟨PE.imp (pe_tup h.pa) fun σ H Q q => ?_, moTup h.mo⟩
  obtain ⟨Z, env, S, re, rs, q⟩ := q
  refine LA.of h.mo re rs q (fun ds S1 vs H1 q1 a1 r1 => ⟨by rw [← r1.length]; exact q1.1, fun p hp => ?_⟩) fun x S1 c dx H1 q1 a1 r1 => q1 c dx H1 a1 r1
  obtain ⟨a2, r2⟩ := Rp.newT a1.rs hp r1
  exact q1.2 _ _ (a1.trans a2) r2
theorem je_lst (h : JA X W es u) : JE X W (.List es pos) (dLst u) := by
  refine ⟨PE.imp (pe_lst h.pa) fun σ H Q q => ?_, moLst h.mo⟩
  obtain ⟨Z, env, S, re, rs, q⟩ := q
  refine LA.of h.mo re rs q (fun ds S1 vs H1 q1 a1 r1 => ⟨by rw [← r1.length]; exact q1.1, fun p hp => ?_⟩) fun x S1 c dx H1 q1 a1 r1 => q1 c dx H1 a1 r1
  obtain ⟨a2, r2⟩ := Rp.newL a1.rs hp r1
  exact q1.2 _ _ (a1.trans a2) r2
/-- a list that is to be grown -/
theorem je_lstR (h : JA X W es u) : JE X W (.List es pos) (dLstR u) := by
  refine ⟨PE.imp (pe_lst h.pa) fun σ H Q q => ?_, moLstR h.mo⟩
  obtain ⟨Z, env, S, re, rs, q⟩ := q
  refine LA.of h.mo re rs q (fun ds S1 vs H1 q1 a1 r1 => ⟨by rw [← r1.length]; exact q1.1, fun p hp => ?_⟩) fun x S1 c dx H1 q1 a1 r1 => q1 c dx H1 a1 r1
  exact q1.2 p (a1.rs.free hp) _ _ (a1.trans (Rp.newR a1.rs hp r1)) (.ref p)
end

/-! ### subscripts -/
def fIx : F2 := fun x y S Q => match y with
  | .int i => match x with
    | .tup ds => match atI ds i with | some d => Q d S | none => False
    | .lst ds => match atI ds i with | some d => Q d S | none => False
    | .ref a => match S a with
      | some ds => match atI ds i with | some d => Q d S | none => False
      | none => False
    | .str z => z.length ≤ sizeLine ∧ match atI z.cps.toList i with | some c => Q (.str ⟨#[c]⟩) S | none => False
    | _ => False
  | _ => False
theorem moIx : MoF2 fIx := fun x y S Q Q' h q => by
  unfold fIx at q ⊢
  cases y <;> first | exact q | skip
  cases x <;> first | exact q | skip
  · dsimp only at q ⊢; refine ⟨q.1, ?_⟩; have q2 := q.2; split at q2 <;> first | exact h _ _ q2 | exact q2
  · dsimp only at q ⊢; split at q <;> first | exact h _ _ q | exact q
  · dsimp only at q ⊢; split at q <;> first | exact h _ _ q | exact q
  · dsimp only at q ⊢
    split at q
    · split at q <;> first | exact h _ _ q | exact q
    · exact q
theorem atI_rp {K : Kz} {S : Sto} {H : Hp} {ds : List D} {vs : List V} {i : Int} {d : D} (r : RpL K S H ds vs) (e : atI ds i = some d) : ∃ v, atI vs i = some v ∧ Rp K S H d v := by
  unfold atI at e ⊢
  rw [← r.length]
  cases h : ixN ds.length i with
  | none => rw [h] at e; cases e
  | some j =>
    rw [h] at e
    exact r.get e
section
variable {X : Cx} {W : WX} {a b : Expr} {ta tb : TEd} {pos : Pos}
theorem ixD : IxR X (rD X.K fIx) := by
  intro value slice pins s σ H x y v u Q I rx ry h hs
  obtain ⟨Z, S, dx, dy, rs, r1, r2, q⟩ := h
  cases r2 <;> first | (unfold fIx at q; exact q.elim) | skip
  rename_i i
  cases r1 with
  | tup hq ha =>
    unfold fIx at q; dsimp only at q
    split at q <;> first | exact q.elim | skip
    rename_i d e
    obtain ⟨z, e2, r⟩ := atI_rp ha e
    exact ix_tup value slice pins s σ H _ _ v u Q I rx ry ⟨_, _, _, z, rfl, rfl, hq, e2, q z H (.refl rs) r⟩ hs
  | lst hq hn hz ha =>
    unfold fIx at q; dsimp only at q
    split at q <;> first | exact q.elim | skip
    rename_i d e
    obtain ⟨z, e2, r⟩ := atI_rp ha e
    exact ix_list value slice pins s σ H _ _ v u Q I rx ry ⟨_, _, _, z, rfl, rfl, .inl hq, e2, q z H (.refl rs) r⟩ hs
  | lstK hq ha =>
    unfold fIx at q; dsimp only at q
    split at q <;> first | exact q.elim | skip
    rename_i d e
    obtain ⟨z, e2, r⟩ := atI_rp ha e
    exact ix_list value slice pins s σ H _ _ v u Q I rx ry ⟨_, _, _, z, rfl, rfl, SqL.ofK hq, e2, q z H (.refl rs) r⟩ hs
  | ref a =>
    unfold fIx at q; dsimp only at q
    split at q <;> first | exact q.elim | skip
    rename_i ds e0
    split at q <;> first | exact q.elim | skip
    rename_i d e
    obtain ⟨vs, hl, ha⟩ := rs.at_ a ds e0
    obtain ⟨z, e2, r⟩ := atI_rp ha e
    exact ix_list value slice pins s σ H _ _ v u Q I rx ry ⟨_, _, _, z, rfl, rfl, SqL.of hl, e2, q z H (.refl rs) r⟩ hs
  | str z =>
    unfold fIx at q; dsimp only at q
    obtain ⟨hz, q⟩ := q
    split at q <;> first | exact q.elim | skip
    rename_i c e
    exact ix_str value slice pins s σ H _ _ v u Q I rx ry ⟨z, i, c, rfl, rfl, hz, e, q _ H (.refl rs) (.str _)⟩ hs
  | _ => unfold fIx at q; exact q.elim
theorem je_ix (ha : JE X W a ta) (hb : JE X W b tb) (hs : PlainIx b := by exact fun _ _ => rfl) : JE X W (.Subscript a b pos) (dTwo ta tb fIx) :=
  ⟨PE.imp (pe_ix ixD ha.pe hb.pe hs) fun σ H Q h => two ha.mo hb.mo moIx h, moTwo ha.mo hb.mo moIx⟩
end

/-! ### slices -/
abbrev TOd := TX (Option Int)
def oNone : TOd := fun _ S Q _ => Q none S
def oSome (t : TEd) : TOd := fun env S Q E => t env S (fun d S1 => match d with | .int i => Q (some i) S1 | _ => False) E
theorem moONone : MoE oNone := fun env S Q Q' E E' h he q => h _ _ q
theorem moOSome {t : TEd} (ht : MoE t) : MoE (oSome t) := fun env S Q Q' E E' h he q => ht _ _ _ _ _ _ (fun d S1 q1 => by
  cases d <;> first | exact h _ _ q1 | exact q1) he q
def LO (K : PySem.W.Frag) (W : WX) (t : TOd) : TO := fun σ H Q => ∃ Z env S, RE ⟨K, Z⟩ S H env σ ∧ RS ⟨K, Z⟩ S H ∧ t env S (fun b S' => ∀ H', Aft ⟨K, Z⟩ S H S' H' → Q b H') (PX ⟨K, Z⟩ S H σ W)
theorem LO.of {K : Kz} {W : WX} {S : Sto} {H : Hp} {env : Ev} {σ : L2.St} {t : TOd} (mo : MoE t) (re : RE K S H env σ) (rs : RS K S H) {C : Option Int → Sto → Prop} {E : EK} {R : Option Int → Hp → Prop} (h : t env S C E)
    (hc : ∀ d S1 H1, C d S1 → Aft K S H S1 H1 → R d H1) (he : ∀ x S1 c dx H1, E x S1 → Aft K S H S1 H1 → RX K S1 H1 x c dx → W c dx σ H1) : LO K.K W t σ H R :=
  ⟨K.Z, env, S, re, rs, mo _ _ _ _ _ _ (fun d S1 q H1 a => hc d S1 H1 q a) (fun x S1 q c dx H1 a r => he x S1 c dx H1 q a r) h⟩
structure JO (X : Cx) (W : WX) (e : Option Expr) (t : TOd) : Prop where
  po : PO X e (LO X.K W t)
  mo : MoE t
def cutD (ds : List D) (lo hi : Option Int) : List D := (ds.drop (HT.sIx ds.length 0 lo)).take (HT.sIx ds.length ds.length hi - HT.sIx ds.length 0 lo)
def fSl (x : D) (lo hi : Option Int) (S : Sto) (Q : DK) : Prop := match x with
  | .tup ds => Q (.tup (cutD ds lo hi)) S
  | .lst ds => Q (.lst (cutD ds lo hi)) S
  | .ref a => match S a with
    | some ds => Q (.lst (cutD ds lo hi)) S
    | none => False
  | .str z => z.length ≤ sizeLine ∧ Q (.str (cutS z lo hi)) S
  | _ => False
theorem moFSl {x : D} {lo hi : Option Int} {S : Sto} {Q Q' : DK} (h : ∀ d S, Q d S → Q' d S) (q : fSl x lo hi S Q) : fSl x lo hi S Q' := by
  unfold fSl at q ⊢
  cases x <;> first
    | exact h _ _ q
    | exact ⟨q.1, h _ _ q.2⟩
    | (dsimp only at q ⊢; split at q <;> first | exact h _ _ q | exact q)
    | exact q
def dSl (t : TEd) (lo hi : TOd) : TEd := fun env S Q E => t env S (fun x S1 => lo env S1 (fun l S2 => hi env S2 (fun u S3 => fSl x l u S3 Q) E) E) E
theorem moSl {t : TEd} {lo hi : TOd} (ht : MoE t) (hl : MoE lo) (hh : MoE hi) : MoE (dSl t lo hi) := fun env S Q Q' E E' h he q =>
  ht _ _ _ _ _ _ (fun x S1 q1 => hl _ _ _ _ _ _ (fun l S2 q2 => hh _ _ _ _ _ _ (fun u S3 q3 => moFSl h q3) he q2) he q1) he q
section
variable {X : Cx} {W : WX} {e : Expr} {t : TEd} {lo hi : Option Expr} {tl th : TOd} {pos p2 : Pos}
end
end Bl

namespace Bl
open PySem PySem.Spec PyProof.Rows L2

/-! ### defs -/
/-- a def's promise, by data -/
def LSp (K : PySem.W.Frag) (n : Nat) (m : TFd) : Sp := fun vs H Q E => ∃ Z ds S, ds.length = n ∧ RpL ⟨K, Z⟩ S H ds vs ∧ RS ⟨K, Z⟩ S H ∧ m ds S (PQ ⟨K, Z⟩ S H Q) fun x S' => ∀ c dx H', Aft ⟨K, Z⟩ S H S' H' → RX ⟨K, Z⟩ S' H' x c dx → E c dx H'
/-- the def x, called by np places and the keywords ks; gD puts the values into the parameters' order -/
structure JF (P : Program) (w : World) (K : PySem.W.Frag) (mg : Str → Option Value) (base : Heap) (x : Str) (np : Nat) (ks : List Str) (gD : List D → List D → List D) (k : Nat) (m : TFd) : Prop where
  ex : ∃ (f : Addr) (fd : FuncData) (ps : List Str) (g : List Value → List Value → List Value) (gV : List V → List V → List V), mg x = some (.ref f) ∧ PySem.W.keepIn K (.ref f) = true ∧ FnOk P w K mg base (L2.CX P w) k f fd ps (LSp K ps.length m) ∧ KBn K fd ps np ks g gV ∧
    ∀ (Z : Addr → Prop) S H ds zs vs ws, RpL ⟨K, Z⟩ S H ds vs → RpL ⟨K, Z⟩ S H zs ws → ds.length = np → zs.length = ks.length → RpL ⟨K, Z⟩ S H (gD ds zs) (gV vs ws) ∧ (gD ds zs).length = ps.length
  mo : MoF m
/-- a call: the values by places, then those by keywords -/
def dCall (m : TFd) (np nk : Nat) (gD : List D → List D → List D) (ta tk : TAd) : TEd := fun env S Q E => ta env S (fun ds S1 => tk env S1 (fun zs S2 => ds.length = np ∧ zs.length = nk ∧ m (gD ds zs) S2 Q E) E) E
theorem moCall {m : TFd} {np nk : Nat} {gD : List D → List D → List D} {ta tk : TAd} (hm : MoF m) (ha : MoE ta) (hk : MoE tk) : MoE (dCall m np nk gD ta tk) := fun env S Q Q' E E' h he q =>
  ha _ _ _ _ _ _ (fun ds S1 q1 => hk _ _ _ _ _ _ (fun zs S2 q2 => ⟨q2.1, q2.2.1, hm _ _ _ _ _ _ h he q2.2.2⟩) he q1) he q
structure JK (X : Cx) (W : WX) (kws : List Keyword) (t : TAd) : Prop where
  pk : PK X kws (LA X.K W t)
  mo : MoE t
section
variable {X : Cx} {W : WX} {e : Expr} {es : List Expr} {t : TEd} {u : TAd} {pos kpos : Pos} {nm : Option Str} {kws : List Keyword}
theorem jk_nil : JK X W [] aNil := ⟨⟨fun pos pins s σ H Q I h => by
  obtain ⟨Z, env, S, re, rs, q⟩ := h
  exact pk_nil.run pos pins s σ H Q I (q [] H (.refl rs) .nil)⟩, moNilA⟩
theorem jk_cons (ha : JE X W e t) (hr : JK X W kws u) : JK X W (⟨nm, e, kpos⟩ :: kws) (aCons t u) :=
  ⟨⟨fun pos pins s σ H Q I h => (pk_cons ha.pe hr.pk).run pos pins s σ H Q I (LA.cons ha.mo hr.mo h)⟩, moConsA ha.mo hr.mo⟩
theorem run_fnG {k np : Nat} {f : Addr} {fd : FuncData} {ps ks : List Str} {sp : Sp} {E : XK} {g : List Value → List Value → List Value} {gV : List V → List V → List V} {pins : List (Addr × Obj)} {σ : L2.St} {H : Hp} {s : Shared} {Q : VK} {us ws : List Value} {vs zs : List V}
    (F : FnOk X.prog X.w X.K X.mg X.base (L2.CX X.prog X.w) k f fd ps sp) (hr : Room k X.A) (hb : KBn X.K fd ps np ks g gV) (hx : PassesAt (L2.CX X.prog X.w) X σ E)
    (I : Inv X pins σ H s) (r : Vals vs us) (rz : Vals zs ws) (l1 : vs.length = np) (l2 : zs.length = ks.length) (h : sp (gV vs zs) H Q E) : wpAny (model X.prog X.w) X.A (call (.ref f) us (ks.zip ws)) (EP X pins σ Q) X.xe s := by
  refine wpAny_call (codeAny_mono (F.run X.A X.stack s H ⟨us, ks.zip ws⟩ (g us ws) (gV vs zs) Q E hr I.env0 (hb.to s us ws I.kIn (r.length.symm.trans l1) (rz.length.symm.trans l2)) (hb.rel r rz) h) fun r s' hq => ?_)
  cases r with
  | error e => exact hx pins H s e s' I hq
  | ok fl =>
    cases fl with
    | ret u => exact I.after hq
    | next => exact False.elim hq
    | brk => exact False.elim hq
    | cont => exact False.elim hq
variable {P : Program} {w : World} {K : PySem.W.Frag} {mg : Str → Option Value} {base : Heap} {N : List Str} {sc : Scope} {vw : Vw} {k j : Nat} {x : Str} {np : Nat} {ks : List Str} {gD : List D → List D → List D} {m : TFd} {tk : TAd} {p : Pos}
/-- the callee's promise from the arguments -/
theorem call_sp {K : PySem.W.Frag} {Z : Addr → Prop} {S S2 : Sto} {H H2 : Hp} {σ : L2.St} {Q : VK} {n : Nat} {ds : List D} {vs : List V} (hm : MoF m) (a2 : Aft ⟨K, Z⟩ S H S2 H2) (r : RpL ⟨K, Z⟩ S2 H2 ds vs) (hl : ds.length = n) (h : m ds S2 (PQ ⟨K, Z⟩ S H Q) (PX ⟨K, Z⟩ S H σ W)) :
    LSp K n m vs H2 Q (WE W σ) :=
  ⟨Z, ds, S2, hl, r, a2.rs, hm _ _ _ _ _ _ (fun d S3 q => PQ.after a2 q) (fun x S3 q c dx H' a3 rx => q c dx H' (a2.trans a3) rx) h⟩
/-- f(e, .., k = v, ..) -/
theorem je_callK (c : JC P w K mg base N sc vw k X W) (F : JF P w K mg base x np ks gD j m) (hj : j ≤ k) (hx : x ∈ vw.gs) (ha : JA X W (e :: es) u) (hk : JK X W kws tk)
    (hall : (backToKw pos (keywordEach kws X.env)).all (·.1.isSome) = true := by rfl) (hks : (backToKw pos (keywordEach kws X.env)).filterMap (·.1) = ks := by rfl) (he : starEach (e :: es) X.env = (false, eval e X.env) :: starEach es X.env := by rfl)
    (hpl : ((backTo pos (starEach (e :: es) X.env)).any (·.1) || (backToKw pos (keywordEach kws X.env)).any (·.1.isNone)) = false := by rfl) :
    JE X W (.Call (.Name x p) (e :: es) kws pos) (dCall m np ks.length gD u tk) := by
  obtain ⟨rfl, rfl, rfl, rfl, rfl, rfl, rfl⟩ : X.prog = P ∧ X.w = w ∧ X.K = K ∧ X.mg = mg ∧ X.base = base ∧ X.N = N ∧ X.env.scope = sc := ⟨c.prog, c.ww, c.kk, c.gg, c.bb, c.nn, c.ss⟩
  obtain ⟨f, fd, ps, g, gV, hm, hkp, FF, hb, rel⟩ := F.ex
  refine ⟨⟨fun pins s σ H Q I h => ?_⟩, moCall F.mo ha.mo hk.mo⟩
  obtain ⟨Z, env, S, re, rs, q⟩ := h
  refine wpAny_Call_Name_kw (ld_glob I (c.gl hx) hm ?_ (c.sC.gl x hx).2.2)
  refine PySem.W.callWith_KW (h₀ := X.base) I.ok.mod.kin hkp hall (thn (ha.pa.run pos pins s σ H _ I (LA.of ha.mo re rs q (R := fun vs H1 => ∃ ds S1, Aft ⟨X.K, Z⟩ S H S1 H1 ∧ RpL ⟨X.K, Z⟩ S1 H1 ds vs ∧ tk env S1 _ _) (fun ds S1 vs H1 q1 a1 r1 => ⟨ds, S1, a1, r1, q1⟩) fun x S1 c dx H1 q1 a1 r1 => q1 c dx H1 a1 r1)) fun us s1 ⟨vs, H1, I1, r, ds, S1, a1, r1, q1⟩ => ?_) hpl he
  refine thn (hk.pk.run pos pins s1 σ H1 _ I1 (LA.of hk.mo (re.step a1.st rs) a1.rs q1 (R := fun ws H2 => ∃ zs S2, Aft ⟨X.K, Z⟩ S1 H1 S2 H2 ∧ RpL ⟨X.K, Z⟩ S2 H2 zs ws ∧ ds.length = np ∧ zs.length = ks.length ∧ m (gD ds zs) S2 _ _) (fun zs S2 ws H2 q2 a2 r2 => ⟨zs, S2, a2, r2, q2⟩) fun x S2 c dx H2 q2 a2 r2 => q2 c dx H2 (a1.trans a2) r2)) fun ws s2 ⟨zv, H2, I2, rz, zs, S2, a2, r2, l1, l2, q2⟩ => ⟨I2.kIn, ?_⟩
  rw [hks]
  have r1' := RpL.step a2.st a1.rs _ _ r1
  obtain ⟨rr, ll⟩ := rel Z S2 H2 ds zs vs zv r1' r2 l1 l2
  exact run_fnG FF (c.room.mono hj) hb (passAt c.tk σ) I2 r rz (by rw [← r1.length]; exact l1) (by rw [← r2.length]; exact l2) (call_sp F.mo (a1.trans a2) rr ll q2)
/-- f(k = v, ..) -/
theorem je_callK0 (c : JC P w K mg base N sc vw k X W) (F : JF P w K mg base x np ks gD j m) (hj : j ≤ k) (hx : x ∈ vw.gs) (hk : JK X W kws tk)
    (hall : (backToKw pos (keywordEach kws X.env)).all (·.1.isSome) = true := by rfl) (hks : (backToKw pos (keywordEach kws X.env)).filterMap (·.1) = ks := by rfl)
    (hpl : ((backTo pos (starEach [] X.env)).any (·.1) || (backToKw pos (keywordEach kws X.env)).any (·.1.isNone)) = false := by rfl) :
    JE X W (.Call (.Name x p) [] kws pos) (dCall m np ks.length gD aNil tk) := by
  obtain ⟨rfl, rfl, rfl, rfl, rfl, rfl, rfl⟩ : X.prog = P ∧ X.w = w ∧ X.K = K ∧ X.mg = mg ∧ X.base = base ∧ X.N = N ∧ X.env.scope = sc := ⟨c.prog, c.ww, c.kk, c.gg, c.bb, c.nn, c.ss⟩
  obtain ⟨f, fd, ps, g, gV, hm, hkp, FF, hb, rel⟩ := F.ex
  refine ⟨⟨fun pins s σ H Q I h => ?_⟩, moCall F.mo moNilA hk.mo⟩
  obtain ⟨Z, env, S, re, rs, q⟩ := h
  refine wpAny_Call_Name_kw (ld_glob I (c.gl hx) hm ?_ (c.sC.gl x hx).2.2)
  refine PySem.W.callWith_KW0 (h₀ := X.base) I.ok.mod.kin hkp hall ?_ hpl
  refine thn (hk.pk.run pos pins s σ H _ I (LA.of hk.mo re rs q (R := fun ws H2 => ∃ zs S2, Aft ⟨X.K, Z⟩ S H S2 H2 ∧ RpL ⟨X.K, Z⟩ S2 H2 zs ws ∧ ([] : List D).length = np ∧ zs.length = ks.length ∧ m (gD [] zs) S2 _ _) (fun zs S2 ws H2 q2 a2 r2 => ⟨zs, S2, a2, r2, q2⟩) fun x S2 c dx H2 q2 a2 r2 => q2 c dx H2 a2 r2)) fun ws s2 ⟨zv, H2, I2, rz, zs, S2, a2, r2, l1, l2, q2⟩ => ⟨I2.kIn, ?_⟩
  rw [hks]
  obtain ⟨rr, ll⟩ := rel Z S2 H2 [] zs [] zv .nil r2 l1 l2
  exact run_fnG (us := []) (vs := []) FF (c.room.mono hj) hb (passAt c.tk σ) I2 .nil rz l1 (by rw [← r2.length]; exact l2) (call_sp F.mo a2 rr ll q2)
/-- f(e, ..) -/
theorem je_call (c : JC P w K mg base N sc vw k X W) (F : JF P w K mg base x np [] gD j m) (hj : j ≤ k) (hx : x ∈ vw.gs) (ha : JA X W (e :: es) u) (he : starEach (e :: es) X.env = (false, eval e X.env) :: starEach es X.env := by rfl)
    (hpl : (backTo pos (starEach es X.env)).any (·.1) = false := by rfl) : JE X W (.Call (.Name x p) (e :: es) [] pos) (dCall m np 0 gD u aNil) := by
  obtain ⟨rfl, rfl, rfl, rfl, rfl, rfl, rfl⟩ : X.prog = P ∧ X.w = w ∧ X.K = K ∧ X.mg = mg ∧ X.base = base ∧ X.N = N ∧ X.env.scope = sc := ⟨c.prog, c.ww, c.kk, c.gg, c.bb, c.nn, c.ss⟩
  obtain ⟨f, fd, ps, g, gV, hm, hkp, FF, hb, rel⟩ := F.ex
  refine ⟨⟨fun pins s σ H Q I h => ?_⟩, moCall F.mo ha.mo moNilA⟩
  obtain ⟨Z, env, S, re, rs, q⟩ := h
  refine wpAny_Call_Name_kw (ld_glob I (c.gl hx) hm ?_ (c.sC.gl x hx).2.2)
  refine PySem.W.callWith_K (h₀ := X.base) I.ok.mod.kin hkp (thn (ha.pa.run pos pins s σ H _ I (LA.of ha.mo re rs q (R := fun vs H1 => ∃ ds S1, Aft ⟨X.K, Z⟩ S H S1 H1 ∧ RpL ⟨X.K, Z⟩ S1 H1 ds vs ∧ ds.length = np ∧ ([] : List D).length = 0 ∧ m (gD ds []) S1 _ _) (fun ds S1 vs H1 q1 a1 r1 => ⟨ds, S1, a1, r1, q1⟩) fun x S1 c dx H1 q1 a1 r1 => q1 c dx H1 a1 r1)) fun us s1 ⟨vs, H1, I1, r, ds, S1, a1, r1, l1, l2, q1⟩ => ⟨I1.kIn, ?_⟩) he hpl
  obtain ⟨rr, ll⟩ := rel Z S1 H1 ds [] vs [] r1 .nil l1 rfl
  exact run_fnG (ws := []) (zs := []) FF (c.room.mono hj) hb (passAt c.tk σ) I1 r .nil (by rw [← r1.length]; exact l1) rfl (call_sp F.mo a1 rr ll q1)
end

/-! ### what is built in -/
abbrev GB := List D → Sto → DK → Prop
def rC (K : PySem.W.Frag) (g : GB) : List V → Hp → VK → Prop := fun vs H Q => ∃ Z S ds, RS ⟨K, Z⟩ S H ∧ RpL ⟨K, Z⟩ S H ds vs ∧ g ds S (PQ ⟨K, Z⟩ S H Q)
structure CallD (X : Cx) (f : Value) (g : GB) : Prop where
  mo : ∀ ds S (Q Q' : DK), (∀ d S, Q d S → Q' d S) → g ds S Q → g ds S Q'
  run : CallR X f (rC X.K g)
def dB (g : GB) (ta : TAd) : TEd := fun env S Q E => ta env S (fun ds S1 => g ds S1 Q) E
section
variable {X : Cx} {W : WX} {e : Expr} {es : List Expr} {t : TEd} {u : TAd} {pos p : Pos} {x : Str} {g : GB} {id T : String}
variable {P : Program} {w : World} {K : PySem.W.Frag} {mg : Str → Option Value} {base : Heap} {N : List Str} {sc : Scope} {vw : Vw} {k : Nat}
theorem dB_imp {K : PySem.W.Frag} {g : GB} (hg : ∀ ds S (Q Q' : DK), (∀ d S, Q d S → Q' d S) → g ds S Q → g ds S Q') (hu : MoE u) {σ : L2.St} {H : Hp} {Q : VK} (h : LE K W (dB g u) σ H Q) : tCB (rC K g) (LA K W u) σ H Q := by
  obtain ⟨Z, env, S, re, rs, q⟩ := h
  refine LA.of hu re rs q (fun ds S1 vs H1 q1 a1 r1 => ?_) fun x S1 c dx H1 q1 a1 r1 => q1 c dx H1 a1 r1
  exact ⟨Z, S1, ds, a1.rs, r1, hg _ _ _ _ (fun d S2 q2 => PQ.after a1 q2) q1⟩
theorem moB {g : GB} (hg : ∀ ds S (Q Q' : DK), (∀ d S, Q d S → Q' d S) → g ds S Q → g ds S Q') (hu : MoE u) : MoE (dB g u) := fun env S Q Q' E E' h he q => hu _ _ _ _ _ _ (fun ds S1 q1 => hg _ _ _ _ h q1) he q
theorem je_callB (c : JC P w K mg base N sc vw k X W) (hc : CallD X (.builtin id) g) (hx : x ∈ vw.gs) (hm : mg x = none) (hv : bootBuiltins x = some (.builtin id)) (ha : JA X W (e :: es) u) (he : starEach (e :: es) X.env = (false, eval e X.env) :: starEach es X.env := by rfl)
    (hpl : (backTo pos (starEach es X.env)).any (·.1) = false := by rfl) : JE X W (.Call (.Name x p) (e :: es) [] pos) (dB g u) :=
  ⟨PE.imp (pe_callB hc.run (c.gl hx) (by rw [c.gg]; exact hm) hv ha.pa (c.sC.gl x hx).2.1 (c.sC.gl x hx).2.2 he hpl) fun σ H Q h => dB_imp hc.mo ha.mo h, moB hc.mo ha.mo⟩
end
def bAbs : GB := fun ds S Q => match ds with
  | [.int i] => Q (.int (if i < 0 then -i else i)) S
  | _ => False
def bLen : GB := fun ds S Q => match ds with
  | [.tup xs] => Q (.int xs.length) S
  | [.lst xs] => Q (.int xs.length) S
  | [.ref a] => match S a with | some xs => Q (.int xs.length) S | none => False
  | [.str x] => x.length ≤ sizeLine ∧ Q (.int x.length) S
  | _ => False
def bMax : GB := fun ds S Q => match ds with
  | [.int i, .int j] => Q (.int (if j > i then j else i)) S
  | _ => False
def bMin : GB := fun ds S Q => match ds with
  | [.int i, .int j] => Q (.int (if j < i then j else i)) S
  | _ => False
def bInt : GB := fun ds S Q => match ds with
  | [.int i] => Q (.int i) S
  | [.bl b] => Q (.int (if b then 1 else 0)) S
  | _ => False
def bTup : GB := fun ds S Q => match ds with
  | [.tup xs] => Q (.tup xs) S
  | [.lst xs] => Q (.tup xs) S
  | [.ref a] => match S a with | some xs => Q (.tup xs) S | none => False
  | _ => False
def bLst : GB := fun ds S Q => match ds with
  | [.tup xs] => Q (.lst xs) S
  | [.lst xs] => Q (.lst xs) S
  | [.ref a] => match S a with | some xs => Q (.lst xs) S | none => False
  | _ => False
def blsOf : List D → Option (List Bool)
  | [] => some []
  | .bl b :: ds => (blsOf ds).map (b :: ·)
  | _ => none
def bAll : GB := fun ds S Q => match ds with
  | [.lst xs] => match blsOf xs with | some bs => Q (.bl (bs.all id)) S | none => False
  | _ => False
section
variable {X : Cx}
theorem RpL.one {K : Kz} {S : Sto} {H : Hp} {d : D} {vs : List V} (h : RpL K S H [d] vs) : ∃ v, vs = [v] ∧ Rp K S H d v := by
  cases h with
  | cons a b => cases b; exact ⟨_, rfl, a⟩
theorem RpL.two {K : Kz} {S : Sto} {H : Hp} {d e : D} {vs : List V} (h : RpL K S H [d, e] vs) : ∃ v w, vs = [v, w] ∧ Rp K S H d v ∧ Rp K S H e w := by
  cases h with
  | cons a b =>
    cases b with
    | cons b c => cases c; exact ⟨_, _, rfl, a, b⟩
/-- a datum that is a list -/
theorem Rp.sqL {K : Kz} {S : Sto} {H : Hp} {xs : List D} {v : V} (h : Rp K S H (.lst xs) v) : ∃ a vs, v = .ref a ∧ SqL K.K H a vs ∧ RpL K S H xs vs := by
  cases h with
  | lst h1 h2 h3 h4 => exact ⟨_, _, rfl, .inl h1, h4⟩
  | lstK h1 h2 => exact ⟨_, _, rfl, SqL.ofK h1, h2⟩
theorem Rp.sqT {K : Kz} {S : Sto} {H : Hp} {xs : List D} {v : V} (h : Rp K S H (.tup xs) v) : ∃ a vs, v = .ref a ∧ SqT K.K H a vs ∧ RpL K S H xs vs := by
  cases h with
  | tup h1 h2 => exact ⟨_, _, rfl, h1, h2⟩
theorem Rp.sqR {K : Kz} {S : Sto} {H : Hp} {a : Addr} {xs : List D} (rs : RS K S H) (e : S a = some xs) : ∃ vs, SqL K.K H a vs ∧ RpL K S H xs vs := by
  obtain ⟨vs, h1, h2⟩ := rs.at_ a xs e
  exact ⟨vs, SqL.of h1, h2⟩
theorem cd_abs : CallD X (.builtin "abs") bAbs := by
  refine ⟨by (intro ds S Q Q' h q; unfold bAbs at q ⊢; split at q <;> first | exact h _ _ q | exact ⟨q.1, h _ _ q.2⟩ | exact q.elim | ((try dsimp only at q ⊢); split at q <;> first | exact h _ _ q | exact q.elim)), fun pins s σ H xs us Q I rv h => ?_⟩
  obtain ⟨Z, S, ds, rs, r, q⟩ := h
  unfold bAbs at q
  split at q <;> first | exact q.elim | skip
  obtain ⟨v, rfl, r1⟩ := r.one
  cases r1
  exact call_abs pins s σ H _ us Q I rv ⟨_, rfl, q _ H (.refl rs) (.int _)⟩
theorem cd_min (hc : X.calm = true) : CallD X (.builtin "min") bMin := by
  refine ⟨by (intro ds S Q Q' h q; unfold bMin at q ⊢; split at q <;> first | exact h _ _ q | exact ⟨q.1, h _ _ q.2⟩ | exact q.elim | ((try dsimp only at q ⊢); split at q <;> first | exact h _ _ q | exact q.elim)), fun pins s σ H xs us Q I rv h => ?_⟩
  obtain ⟨Z, S, ds, rs, r, q⟩ := h
  unfold bMin at q
  split at q <;> first | exact q.elim | skip
  obtain ⟨v, v2, rfl, r1, r2⟩ := r.two
  cases r1
  cases r2
  exact call_min2 hc pins s σ H _ us Q I rv ⟨_, _, rfl, q _ H (.refl rs) (.int _)⟩
theorem cd_int : CallD X (.type "int") bInt := by
  refine ⟨by (intro ds S Q Q' h q; unfold bInt at q ⊢; split at q <;> first | exact h _ _ q | exact ⟨q.1, h _ _ q.2⟩ | exact q.elim | ((try dsimp only at q ⊢); split at q <;> first | exact h _ _ q | exact q.elim)), fun pins s σ H xs us Q I rv h => ?_⟩
  obtain ⟨Z, S, ds, rs, r, q⟩ := h
  unfold bInt at q
  split at q <;> first | exact q.elim | skip
  · obtain ⟨v, rfl, r1⟩ := r.one
    cases r1
    exact call_int1 pins s σ H _ us Q I rv (.inl ⟨_, rfl, q _ H (.refl rs) (.int _)⟩)
  · obtain ⟨v, rfl, r1⟩ := r.one
    cases r1
    exact call_int1 pins s σ H _ us Q I rv (.inr ⟨_, rfl, q _ H (.refl rs) (.int _)⟩)
theorem cd_len : CallD X (.builtin "len") bLen := by
  refine ⟨by (intro ds S Q Q' h q; unfold bLen at q ⊢; split at q <;> first | exact h _ _ q | exact ⟨q.1, h _ _ q.2⟩ | exact q.elim | ((try dsimp only at q ⊢); split at q <;> first | exact h _ _ q | exact q.elim)), fun pins s σ H xs us Q I rv h => ?_⟩
  obtain ⟨Z, S, ds, rs, r, q⟩ := h
  unfold bLen at q
  split at q <;> first | exact q.elim | skip
  · obtain ⟨v, rfl, r1⟩ := r.one
    obtain ⟨a, vs, rfl, hs, hl⟩ := r1.sqT
    exact call_len_seq pins s σ H _ us Q I rv ⟨a, vs, rfl, .inr hs, by rw [← hl.length]; exact q _ H (.refl rs) (.int _)⟩
  · obtain ⟨v, rfl, r1⟩ := r.one
    obtain ⟨a, vs, rfl, hs, hl⟩ := r1.sqL
    exact call_len_seq pins s σ H _ us Q I rv ⟨a, vs, rfl, .inl hs, by rw [← hl.length]; exact q _ H (.refl rs) (.int _)⟩
  · obtain ⟨v, rfl, r1⟩ := r.one
    cases r1
    try dsimp only at q
    split at q <;> first | exact q.elim | skip
    rename_i e
    obtain ⟨vs, hs, hl⟩ := Rp.sqR rs e
    exact call_len_seq pins s σ H _ us Q I rv ⟨_, vs, rfl, .inl hs, by rw [← hl.length]; exact q _ H (.refl rs) (.int _)⟩
  · obtain ⟨v, rfl, r1⟩ := r.one
    cases r1
    exact call_len_str pins s σ H _ us Q I rv ⟨_, rfl, q.1, q.2 _ H (.refl rs) (.int _)⟩
theorem cd_tup : CallD X (.type "tuple") bTup := by
  refine ⟨by (intro ds S Q Q' h q; unfold bTup at q ⊢; split at q <;> first | exact h _ _ q | exact ⟨q.1, h _ _ q.2⟩ | exact q.elim | ((try dsimp only at q ⊢); split at q <;> first | exact h _ _ q | exact q.elim)), fun pins s σ H xs us Q I rv h => ?_⟩
  obtain ⟨Z, S, ds, rs, r, q⟩ := h
  unfold bTup at q
  split at q <;> first | exact q.elim | skip
  · obtain ⟨v, rfl, r1⟩ := r.one
    obtain ⟨a, vs, rfl, hs, hl⟩ := r1.sqT
    exact call_tuple_of pins s σ H _ us Q I rv ⟨a, vs, rfl, .inr ⟨hs, q _ H (.refl rs) r1⟩⟩
  · obtain ⟨v, rfl, r1⟩ := r.one
    obtain ⟨a, vs, rfl, hs, hl⟩ := r1.sqL
    exact call_tuple_of pins s σ H _ us Q I rv ⟨a, vs, rfl, .inl ⟨hs, fun l hn => by
      obtain ⟨a2, r2⟩ := Rp.newT rs hn hl
      exact q _ _ a2 r2⟩⟩
  · obtain ⟨v, rfl, r1⟩ := r.one
    cases r1
    try dsimp only at q
    split at q <;> first | exact q.elim | skip
    rename_i e
    obtain ⟨vs, hs, hl⟩ := Rp.sqR rs e
    exact call_tuple_of pins s σ H _ us Q I rv ⟨_, vs, rfl, .inl ⟨hs, fun l hn => by
      obtain ⟨a2, r2⟩ := Rp.newT rs hn hl
      exact q _ _ a2 r2⟩⟩
theorem cd_lst : CallD X (.type "list") bLst := by
  refine ⟨by (intro ds S Q Q' h q; unfold bLst at q ⊢; split at q <;> first | exact h _ _ q | exact ⟨q.1, h _ _ q.2⟩ | exact q.elim | ((try dsimp only at q ⊢); split at q <;> first | exact h _ _ q | exact q.elim)), fun pins s σ H xs us Q I rv h => ?_⟩
  obtain ⟨Z, S, ds, rs, r, q⟩ := h
  unfold bLst at q
  split at q <;> first | exact q.elim | skip
  · obtain ⟨v, rfl, r1⟩ := r.one
    obtain ⟨a, vs, rfl, hs, hl⟩ := r1.sqT
    exact call_list_of pins s σ H _ us Q I rv ⟨a, vs, rfl, .inr hs, fun l hn => by
      obtain ⟨a2, r2⟩ := Rp.newL rs hn hl
      exact q _ _ a2 r2⟩
  · obtain ⟨v, rfl, r1⟩ := r.one
    obtain ⟨a, vs, rfl, hs, hl⟩ := r1.sqL
    exact call_list_of pins s σ H _ us Q I rv ⟨a, vs, rfl, .inl hs, fun l hn => by
      obtain ⟨a2, r2⟩ := Rp.newL rs hn hl
      exact q _ _ a2 r2⟩
  · obtain ⟨v, rfl, r1⟩ := r.one
    cases r1
    try dsimp only at q
    split at q <;> first | exact q.elim | skip
    rename_i e
    obtain ⟨vs, hs, hl⟩ := Rp.sqR rs e
    exact call_list_of pins s σ H _ us Q I rv ⟨_, vs, rfl, .inl hs, fun l hn => by
      obtain ⟨a2, r2⟩ := Rp.newL rs hn hl
      exact q _ _ a2 r2⟩
end

/-! ### isinstance, a built-in class -/
def tyN : D → Option String
  | .non => some "NoneType"
  | .bl _ => some "bool"
  | .int _ => some "int"
  | .str _ => some "str"
  | .tup _ => some "tuple"
  | .lst _ => some "list"
  | _ => none
def isiD (T : String) (d : D) : Option Bool := (tyN d).bind fun a => kitB a T
def dIsi (T : String) (t : TEd) : TEd := fun env S Q E => t env S (fun d S1 => match isiD T d with | some b => Q (.bl b) S1 | none => False) E
theorem moIsi {T : String} {t : TEd} (h : MoE t) : MoE (dIsi T t) := fun env S Q Q' E E' hq he q => h _ _ _ _ _ _ (fun d S1 q1 => by
  split at q1
  · exact hq _ _ q1
  · exact q1.elim) he q
theorem tyX_of {K : Kz} {S : Sto} {H : Hp} {d : D} {v : V} {a : String} (r : Rp K S H d v) (e : tyN d = some a) : TyX K.K H v (.type a) := by
  cases r with
  | non => cases e; exact .base .non
  | bl b => cases e; exact .base (.bl b)
  | int i => cases e; exact .base (.int i)
  | str x => cases e; exact .base (.str x)
  | tup h1 _ =>
    cases e
    rcases h1 with (h1 | ⟨o, h1⟩) | ⟨o, its, n, h1, h2, _⟩
    · exact .base (.tup h1)
    · exact .fTuple h1
    · exact .kTuple h1 h2
  | lst h1 _ _ _ =>
    cases e
    rcases h1 with h1 | ⟨o, h1⟩
    · exact .base (.lst h1)
    · exact .base (.frz h1)
  | lstK h1 _ =>
    cases e
    obtain ⟨o, its, n, h1, h2, _⟩ := h1
    exact .kList h1 h2
  | ref a => cases e
  | obj a => cases e
section
variable {X : Cx} {W : WX} {e : Expr} {t : TEd} {pos p q : Pos} {x y : Str} {T : String}
variable {P : Program} {w : World} {K : PySem.W.Frag} {mg : Str → Option Value} {base : Heap} {N : List Str} {sc : Scope} {vw : Vw} {k : Nat}
theorem je_isi (c : JC P w K mg base N sc vw k X W) (hx : ("isinstance" : Str) ∈ vw.gs) (hm : mg "isinstance" = none) (hy : y ∈ vw.gs) (hmy : mg y = none) (hv : bootBuiltins y = some (.type T)) (ha : JE X W e t)
    (he : starEach [e, .Name y q] X.env = (false, eval e X.env) :: starEach [.Name y q] X.env := by rfl) : JE X W (.Call (.Name "isinstance" p) [e, .Name y q] [] pos) (dIsi T t) := by
  refine ⟨PE.imp (pe_callB call_isi (c.gl hx) (by rw [c.gg]; exact hm) (by decide +kernel) (pa_cons ha.pe (pa_cons (pe_bltn (v := .ty T) (c.gl hy) (by rw [c.gg]; exact hmy) hv rfl (c.sC.gl y hy).2.1 (c.sC.gl y hy).2.2) pa_nil) he) (c.sC.gl _ hx).2.1 (c.sC.gl _ hx).2.2 he) fun σ H Q h => ?_, moIsi ha.mo⟩
  obtain ⟨Z, env, S, re, rs, q⟩ := h
  refine LE.of ha.mo re rs q (fun d S1 v H1 q1 a1 r1 => ?_) fun x S1 c dx H1 q1 a1 r1 => q1 c dx H1 a1 r1
  unfold isiD at q1
  cases e1 : tyN d with
  | none => rw [e1] at q1; exact q1.elim
  | some a =>
    rw [e1] at q1
    dsimp only [Option.bind_some] at q1
    split at q1 <;> first | exact q1.elim | skip
    rename_i b e2
    exact ⟨v, .ty T, _, _, b, rfl, .ty T, tyX_of r1 e1, kit_ty e2, q1 _ H1 a1 (.bl _)⟩
end
end Bl

namespace Bl
open PySem PySem.Spec PyProof.Rows L2

/-! ### targets -/
inductive Tg where
  | nm (i : Nat)
  | tp (ts : List Tg)
def itemsOf (S : Sto) : D → Option (List D)
  | .tup ds => some ds
  | .lst ds => some ds
  | .ref a => S a
  | _ => none
mutual
def asgT (S : Sto) : Tg → D → Ev → Option Ev
  | .nm i, d, env => some (env.set i (some d))
  | .tp ts, d, env => match itemsOf S d with
    | some ds => asgL S ts ds env
    | none => none
def asgL (S : Sto) : List Tg → List D → Ev → Option Ev
  | [], [], env => some env
  | t :: ts, d :: ds, env => match asgT S t d env with
    | some env1 => asgL S ts ds env1
    | none => none
  | _, _, _ => none
end
mutual
def tgS : Tg → List Nat
  | .nm i => [i]
  | .tp ts => tgsS ts
def tgsS : List Tg → List Nat
  | [] => []
  | t :: ts => tgS t ++ tgsS ts
end
theorem asgL_len {S : Sto} : ∀ {ts : List Tg} {ds : List D} {env env' : Ev}, asgL S ts ds env = some env' → ds.length = ts.length
  | [], [], _, _, _ => rfl
  | [], _ :: _, _, _, h => by unfold asgL at h; cases h
  | _ :: _, [], _, _, h => by unfold asgL at h; cases h
  | t :: ts, d :: ds, env, env', h => by
    unfold asgL at h
    split at h
    · exact congrArg Nat.succ (asgL_len h)
    · cases h
theorem wipe_in {σ : L2.St} {i : Nat} {x : Option V} : ∀ {vs : List Nat}, i ∈ vs → wipe (σ.set i x) vs = wipe σ vs
  | v :: vs, h => by
    unfold wipe
    by_cases hv : i ∈ vs
    · rw [wipe_in hv]
    · have e : v = i := by
        rcases List.mem_cons.mp h with e | e
        · exact e.symm
        · exact absurd e hv
      subst e
      have : ∀ ws : List Nat, v ∉ ws → wipe (σ.set v x) ws = (wipe σ ws).set v x := by
        intro ws
        induction ws with
        | nil => intro _; rfl
        | cons u us ih =>
          intro hn
          have h1 : v ≠ u := fun z => hn (by simp [z])
          have h2 : v ∉ us := fun z => hn (by simp [z])
          unfold wipe
          rw [ih h2, List.set_comm _ _ h1]
      rw [this vs hv, List.set_set]
def LG (K : PySem.W.Frag) (g : Tg) : TG := fun v σ H Q => ∃ Z env S d env', RE ⟨K, Z⟩ S H env σ ∧ RS ⟨K, Z⟩ S H ∧ Rp ⟨K, Z⟩ S H d v ∧ asgT S g d env = some env' ∧
  ∀ σ', RE ⟨K, Z⟩ S H env' σ' → (∀ vs : List Nat, (∀ i ∈ tgS g, i ∈ vs) → wipe σ' vs = wipe σ vs) → Q σ' H
def LGs (K : PySem.W.Frag) (gs : List Tg) : TGs := fun us σ H Q => ∃ Z env S ds env', RE ⟨K, Z⟩ S H env σ ∧ RS ⟨K, Z⟩ S H ∧ RpL ⟨K, Z⟩ S H ds us ∧ asgL S gs ds env = some env' ∧
  ∀ σ', RE ⟨K, Z⟩ S H env' σ' → (∀ vs : List Nat, (∀ i ∈ tgsS gs, i ∈ vs) → wipe σ' vs = wipe σ vs) → Q σ' H
structure JG (X : Cx) (tg : Expr) (g : Tg) : Prop where
  pg : PG X tg (LG X.K g)
structure JGs (X : Cx) (tgs : List Expr) (gs : List Tg) : Prop where
  pg : PGs X tgs (LGs X.K gs)
section
variable {P : Program} {w : World} {K : PySem.W.Frag} {mg : Str → Option Value} {base : Heap} {N : List Str} {sc : Scope} {vw : Vw} {k : Nat} {X : Cx} {W : WX}
theorem JC.loc (c : JC P w K mg base N sc vw k X W) {x : Str} (h : sc.names.lookup x = some .local ∨ sc.names.lookup x = some .cell ∧ ∀ y, X.fn y = true) : Loc X.env.scope x ∧ (X.fn x = true ∨ X.env.scope.names.lookup x = some .local) := by
  rw [c.ss]
  rcases h with h | h
  · exact ⟨.inl h, .inr h⟩
  · exact ⟨.inr h.1, .inl (h.2 x)⟩
theorem jg_name (c : JC P w K mg base N sc vw k X W) (i : Nat) {x : Str} {pos : Pos} (hi : N[i]? = some x) (hx : sc.names.lookup x = some .local ∨ sc.names.lookup x = some .cell ∧ ∀ y, X.fn y = true) : JG X (.Name x pos) (.nm i) := by
  obtain ⟨l1, l2⟩ := c.loc hx
  refine ⟨⟨fun pins s σ H v u Q I r h => ?_⟩⟩
  obtain ⟨Z, env, S, d, env', re, rs, rp, e, q⟩ := h
  refine (pg_name (i := i) (by rw [c.nn]; exact c.nd) (by rw [c.nn]; exact hi) l1 l2).run pins s σ H v u Q I r (q _ ?_ fun vs hv => wipe_in (hv i (by simp [tgS])))
  unfold asgT at e
  cases e
  exact re.set rp i
theorem jgs_nil : JGs X [] [] := by
  refine ⟨⟨fun pins s σ H v u Q I r h => ?_⟩⟩
  obtain ⟨Z, env, S, ds, env', re, rs, rp, e, q⟩ := h
  cases ds with
  | cons d ds => unfold asgL at e; cases e
  | nil =>
    cases rp
    unfold asgL at e
    cases e
    exact pgs_nil.run pins s σ H [] u Q I r ⟨rfl, q σ re fun _ _ => rfl⟩
theorem jgs_cons {e : Expr} {es : List Expr} {g : Tg} {gt : List Tg} (h1 : JG X e g) (h2 : JGs X es gt) (hs : (assignEach (e :: es) X.env).map (·.2) = assign e X.env :: (assignEach es X.env).map (·.2) := by rfl) : JGs X (e :: es) (g :: gt) := by
  refine ⟨⟨fun pins s σ H v u Q I r h => ?_⟩⟩
  obtain ⟨Z, env, S, ds, env', re, rs, rp, e0, q⟩ := h
  cases ds with
  | nil => unfold asgL at e0; cases e0
  | cons d ds =>
    cases rp with
    | cons rp1 rp2 =>
      unfold asgL at e0
      split at e0 <;> first | cases e0; done | skip
      rename_i env1 e1
      refine (pgs_cons h1.pg h2.pg hs).run pins s σ H _ u Q I r ⟨_, _, rfl, Z, env, S, d, env1, re, rs, rp1, e1, fun σ1 re1 w1 => ?_⟩
      exact ⟨Z, env1, S, ds, env', re1, rs, rp2, e0, fun σ2 re2 w2 => q σ2 re2 fun vs hv => by
        rw [w2 vs fun i hi => hv i (by unfold tgsS; exact List.mem_append_right _ hi), w1 vs fun i hi => hv i (by unfold tgsS; exact List.mem_append_left _ hi)]⟩
theorem jg_tup {es : List Expr} {n : Nat} {gt : List Tg} {pos : Pos} (hc : X.calm = true) (h : JGs X es gt) (hn : (assignEach es X.env).length = gt.length := by rfl) (hst : (assignEach es X.env).findIdx? (·.1) = none := by rfl) : JG X (.Tuple es n pos) (.tp gt) := by
  refine ⟨⟨fun pins s σ H v u Q I r h2 => ?_⟩⟩
  obtain ⟨Z, env, S, d, env', re, rs, rp, e, q⟩ := h2
  unfold asgT at e
  split at e <;> first | cases e; done | skip
  rename_i ds e1
  have ln := asgL_len e
  have fin : ∀ vs, RpL ⟨X.K, Z⟩ S H ds vs → LGs X.K gt vs σ H Q := fun vs rl => ⟨Z, env, S, ds, env', re, rs, rl, e, fun σ' r' w' => q σ' r' fun vs hv => w' vs fun i hi => hv i (by unfold tgS; exact hi)⟩
  cases rp with
  | tup h1 h2 =>
    unfold itemsOf at e1
    cases e1
    exact (pg_tup hc h.pg hn hst).run pins s σ H _ u Q I r ⟨_, _, rfl, h1, by rw [← h2.length]; exact ln, fin _ h2⟩
  | lst h1 _ _ h2 =>
    unfold itemsOf at e1
    cases e1
    exact (pg_lst hc h.pg hn hst).run pins s σ H _ u Q I r ⟨_, _, rfl, .inl h1, by rw [← h2.length]; exact ln, fin _ h2⟩
  | lstK h1 h2 =>
    unfold itemsOf at e1
    cases e1
    exact (pg_lst hc h.pg hn hst).run pins s σ H _ u Q I r ⟨_, _, rfl, SqL.ofK h1, by rw [← h2.length]; exact ln, fin _ h2⟩
  | ref a =>
    unfold itemsOf at e1
    obtain ⟨vs, h1, h2⟩ := rs.at_ a ds e1
    exact (pg_lst hc h.pg hn hst).run pins s σ H _ u Q I r ⟨_, _, rfl, SqL.of h1, by rw [← h2.length]; exact ln, fin _ h2⟩
  | _ => unfold itemsOf at e1; cases e1
end

/-! ### blocks -/
def sNx : TSd := fun env S N => N.nx env S
def sSeq (t u : TSd) : TSd := fun env S N => t env S { N with nx := fun e S1 => u e S1 N }
def sRet (t : TEd) : TSd := fun env S N => t env S N.rt fun x S1 => N.ex x env S1
def sRetN : TSd := fun _ S N => N.rt .non S
def sDrop (t : TEd) : TSd := fun env S N => t env S (fun _ S1 => N.nx env S1) fun x S1 => N.ex x env S1
def sIf (c : TTd) (t u : TSd) : TSd := fun env S N => c env S (fun b S1 => if b = true then t env S1 N else u env S1 N) fun x S1 => N.ex x env S1
def sBrk : TSd := fun env S N => N.bk env S
def sCnt : TSd := fun env S N => N.ct env S
def sAsg (t : TEd) (g : Tg) : TSd := fun env S N => t env S (fun d S1 => match asgT S1 g d env with
  | some e => N.nx e S1
  | none => False) fun x S1 => N.ex x env S1
/-- a, b = x, y with plain local names -/
def sPar (is : List Nat) (t : TAd) : TSd := fun env S N => t env S (fun ds S1 => match asgL S1 (is.map .nm) ds env with
  | some e => N.nx e S1
  | none => False) fun x S1 => N.ex x env S1
def sAug (i : Nat) (t : TEd) (f : F2) : TSd := fun env S N => match env[i]? with
  | some (some x) => t env S (fun y S1 => f x y S1 fun z S2 => N.nx (env.set i (some z)) S2) fun x S1 => N.ex x env S1
  | _ => False
def setD (o i v : D) (S : Sto) (Q : Sto → Prop) : Prop := match o, i with
  | .ref a, .int k => match S a with
    | some ds => match ixN ds.length k with
      | some j => Q (sup S a (ds.set j v))
      | none => False
    | none => False
  | _, _ => False
def sSub (te to ti : TEd) : TSd := fun env S N => te env S (fun v S1 => to env S1 (fun o S2 => ti env S2 (fun i S3 => setD o i v S3 fun S4 => N.nx env S4) fun x S3 => N.ex x env S3) fun x S2 => N.ex x env S2) fun x S1 => N.ex x env S1
def sWhile (c : TTd) (b : TSd) : TSd := fun env S N => ∃ Wi : Nat → Ev → Sto → Prop, (∃ m, Wi m env S) ∧ ∀ m env S, Wi m env S → c env S (fun k S1 => if k = true then b env S1 { N with nx := fun e s => ∃ m', m' < m ∧ Wi m' e s, ct := fun e s => ∃ m', m' < m ∧ Wi m' e s, bk := N.nx } else N.nx env S1) fun x S1 => N.ex x env S1
def forD (g : Tg) (b : TSd) : List D → Ev → Sto → Nd → Prop
  | [], env, S, N => N.nx env S
  | d :: ds, env, S, N => match asgT S g d env with
    | some e1 => b e1 S { N with nx := fun e s => forD g b ds e s N, ct := fun e s => forD g b ds e s N, bk := N.nx }
    | none => False
def sFor (ti : TAd) (g : Tg) (b : TSd) : TSd := fun env S N => ti env S (fun ds S1 => forD g b ds env S1 N) fun x S1 => N.ex x env S1

theorem NdLe.refl (A : Nd) : NdLe A A := ⟨fun _ _ h => h, fun _ _ h => h, fun _ _ h => h, fun _ _ h => h, fun _ _ _ h => h⟩
theorem moNx : MoS sNx := fun env S A B l h => l.nx _ _ h
theorem moSeq {t u : TSd} (ht : MoS t) (hu : MoS u) : MoS (sSeq t u) := fun env S A B l h => ht env S { A with nx := fun e S1 => u e S1 A } { B with nx := fun e S1 => u e S1 B } ⟨fun e S1 q => hu _ _ _ _ l q, l.rt, l.bk, l.ct, l.ex⟩ h
theorem moRet {t : TEd} (ht : MoE t) : MoS (sRet t) := fun env S A B l h => ht _ _ _ _ _ _ l.rt (fun x S1 q => l.ex _ _ _ q) h
theorem moRetN : MoS sRetN := fun env S A B l h => l.rt _ _ h
theorem moDrop {t : TEd} (ht : MoE t) : MoS (sDrop t) := fun env S A B l h => ht _ _ _ _ _ _ (fun d S1 q => l.nx _ _ q) (fun x S1 q => l.ex _ _ _ q) h
theorem moIfS {c : TTd} {t u : TSd} (hc : MoE c) (ht : MoS t) (hu : MoS u) : MoS (sIf c t u) := fun env S A B l h => hc _ _ _ _ _ _ (fun b S1 q => by
  cases b
  · exact hu _ _ _ _ l q
  · exact ht _ _ _ _ l q) (fun x S1 q => l.ex _ _ _ q) h
theorem moAsg {t : TEd} {g : Tg} (ht : MoE t) : MoS (sAsg t g) := fun env S A B l h => ht _ _ _ _ _ _ (fun d S1 q => by
  split at q
  · exact l.nx _ _ q
  · exact q.elim) (fun x S1 q => l.ex _ _ _ q) h
theorem moPar {is : List Nat} {t : TAd} (ht : MoE t) : MoS (sPar is t) := fun env S A B l h => ht _ _ _ _ _ _ (fun d S1 q => by
  split at q
  · exact l.nx _ _ q
  · exact q.elim) (fun x S1 q => l.ex _ _ _ q) h
theorem moSetD {o i v : D} {S : Sto} {Q Q' : Sto → Prop} (h : ∀ S, Q S → Q' S) (q : setD o i v S Q) : setD o i v S Q' := by
  unfold setD at q ⊢
  split at q <;> first | exact q.elim | skip
  split at q <;> first | exact q.elim | skip
  split at q <;> first | exact q.elim | exact h _ q
theorem moSub' {te to ti : TEd} (h1 : MoE te) (h2 : MoE to) (h3 : MoE ti) : MoS (sSub te to ti) := fun env S A B l h => h1 _ _ _ _ _ _ (fun v S1 q1 => h2 _ _ _ _ _ _ (fun o S2 q2 => h3 _ _ _ _ _ _ (fun i S3 q3 => moSetD (fun S4 q4 => l.nx _ _ q4) q3)
  (fun x S3 q => l.ex _ _ _ q) q2) (fun x S2 q => l.ex _ _ _ q) q1) (fun x S1 q => l.ex _ _ _ q) h
theorem moWhile {c : TTd} {b : TSd} (hc : MoE c) (hb : MoS b) : MoS (sWhile c b) := fun env S A B l h => by
  obtain ⟨Wi, h0, turn⟩ := h
  refine ⟨Wi, h0, fun m env S hw => hc _ _ _ _ _ _ (fun k S1 q => ?_) (fun x S1 q => l.ex _ _ _ q) (turn m env S hw)⟩
  cases k
  · exact l.nx _ _ q
  · exact hb _ _ { A with nx := fun e s => ∃ m', m' < m ∧ Wi m' e s, ct := fun e s => ∃ m', m' < m ∧ Wi m' e s, bk := A.nx } _ ⟨fun _ _ z => z, l.rt, l.nx, fun _ _ z => z, l.ex⟩ q
theorem moForD {g : Tg} {b : TSd} (hb : MoS b) : ∀ (ds : List D) (env : Ev) (S : Sto) (A B : Nd), NdLe A B → forD g b ds env S A → forD g b ds env S B
  | [], env, S, A, B, l, h => l.nx _ _ h
  | d :: ds, env, S, A, B, l, h => by
    unfold forD at h ⊢
    split at h <;> first | exact h.elim | skip
    exact hb _ _ { A with nx := fun e s => forD g b ds e s A, ct := fun e s => forD g b ds e s A, bk := A.nx } _ ⟨fun e s q => moForD hb ds e s A B l q, l.rt, l.nx, fun e s q => moForD hb ds e s A B l q, l.ex⟩ h
theorem moFor {ti : TAd} {g : Tg} {b : TSd} (ht : MoE ti) (hb : MoS b) : MoS (sFor ti g b) := fun env S A B l h => ht _ _ _ _ _ _ (fun ds S1 q => moForD hb ds env S1 A B l q) (fun x S1 q => l.ex _ _ _ q) h

section
variable {P : Program} {w : World} {K : PySem.W.Frag} {mg : Str → Option Value} {base : Heap} {N : List Str} {sc : Scope} {vw : Vw} {k : Nat} {X : Cx} {W : WX}
variable {st : Stmt} {rest a b : List Stmt} {t u : TSd} {e o i : Expr} {te to ti : TEd} {tc : TTd} {pos pos' : Pos}
theorem jb_nil : JB X W [] sNx := ⟨PSs.imp pss_nil fun N σ H h => by
  obtain ⟨Z, env, S, re, rs, q⟩ := h
  exact q σ H (.refl rs) re, moNx⟩
theorem jb_cons (h1 : JS X W st t) (h2 : JB X W rest u) : JB X W (st :: rest) (sSeq t u) := by
  refine ⟨PSs.imp (pss_cons h1.ps h2.ps) fun N σ H h => ?_, moSeq h1.mo h2.mo⟩
  obtain ⟨Z, env, S, re, rs, q⟩ := h
  refine LS.of h1.mo re rs q ⟨fun e S1 q1 σ1 H1 a1 r1 => ?_, fun _ _ z => z, fun _ _ z => z, fun _ _ z => z, fun _ _ _ z => z⟩
  exact LS.of h2.mo r1 a1.rs q1 (LN.after a1 N)
theorem jb_one (h1 : JS X W st t) : JB X W [st] t := ⟨pss_one h1.ps, h1.mo⟩
/-- exceptions out of an expression of a statement -/
theorem exS {K : Kz} {S S1 : Sto} {H H1 : Hp} {env : Ev} {σ : L2.St} {M : Ends} {x : Xc} {c : Value} {dx : Option Addr} (re : RE K S H env σ) (rs : RS K S H) (q : (LN K S H W M).ex x env S1) (a : Aft K S H S1 H1) (r : RX K S1 H1 x c dx) : W c dx σ H1 := q c dx σ H1 a (re.step a.st rs) r
theorem js_expr (he : JE X W e te) (hs : swapsWith e none pos.line X.env = pure false := by rfl) : JS X W (.Expr e pos) (sDrop te) := by
  refine ⟨PS.imp (ps_expr he.pe hs) fun N σ H h => ?_, moDrop he.mo⟩
  obtain ⟨Z, env, S, re, rs, q⟩ := h
  exact LE.of he.mo re rs q (fun d S1 v H1 q1 a1 r1 => q1 σ H1 a1 (re.step a1.st rs)) fun x S1 c dx H1 q1 a1 r1 => exS re rs q1 a1 r1
theorem js_ret (he : JE X W e te) : JS X W (.Return (some e) pos) (sRet te) := by
  refine ⟨PS.imp (ps_ret he.pe) fun N σ H h => ?_, moRet he.mo⟩
  obtain ⟨Z, env, S, re, rs, q⟩ := h
  exact LE.of he.mo re rs q (fun d S1 v H1 q1 a1 r1 => q1 v H1 a1 r1) fun x S1 c dx H1 q1 a1 r1 => exS re rs q1 a1 r1
theorem js_if {c : Expr} (hc : JT X W c tc) (ha : JB X W a t) (hb : JB X W b u) : JS X W (.If c a b pos) (sIf tc t u) := by
  refine ⟨PS.imp (ps_if hc.pt ha.ps hb.ps) fun N σ H h => ?_, moIfS hc.mo ha.mo hb.mo⟩
  obtain ⟨Z, env, S, re, rs, q⟩ := h
  refine LT.of hc.mo re rs q (fun c S1 H1 q1 a1 => ?_) fun x S1 c dx H1 q1 a1 r1 => exS re rs q1 a1 r1
  cases c with
  | true => exact iteT (LS.of ha.mo (re.step a1.st rs) a1.rs q1 (LN.after a1 N))
  | false => exact iteF (LS.of hb.mo (re.step a1.st rs) a1.rs q1 (LN.after a1 N))
theorem js_asg {tg : Expr} {g : Tg} (he : JE X W e te) (hg : JG X tg g) (hs : swapsWithSole [tg] e pos.line X.env = pure false := by rfl) (hw : swappedStores [tg] e X.env = pure none := by rfl) (h1 : (assignEach [tg] X.env).map (·.2) = [assign tg X.env] := by rfl) :
    JS X W (.Assign [tg] e pos) (sAsg te g) := by
  refine ⟨PS.imp (ps_asg he.pe hg.pg hs hw h1) fun N σ H h => ?_, moAsg he.mo⟩
  obtain ⟨Z, env, S, re, rs, q⟩ := h
  refine LE.of he.mo re rs q (fun d S1 v H1 q1 a1 r1 => ?_) fun x S1 c dx H1 q1 a1 r1 => exS re rs q1 a1 r1
  split at q1 <;> first | exact q1.elim | skip
  rename_i e1 ee
  exact ⟨Z, env, S1, d, e1, re.step a1.st rs, a1.rs, r1, ee, fun σ' r' _ => q1 σ' H1 a1 r'⟩
theorem js_set (c : JC P w K mg base N sc vw k X W) (j : Nat) {x : Str} (hi : N[j]? = some x) (hx : sc.names.lookup x = some .local ∨ sc.names.lookup x = some .cell ∧ ∀ y, X.fn y = true) (he : JE X W e te) (hs : swapsWith e (some (.Name x pos')) pos.line X.env = pure false := by rfl) :
    JS X W (.Assign [.Name x pos'] e pos) (sAsg te (.nm j)) := by
  obtain ⟨l1, l2⟩ := c.loc hx
  refine ⟨PS.imp (ps_set (i := j) (by rw [c.nn]; exact c.nd) (by rw [c.nn]; exact hi) l1 he.pe hs l2) fun N σ H h => ?_, moAsg he.mo⟩
  obtain ⟨Z, env, S, re, rs, q⟩ := h
  refine LE.of he.mo re rs q (fun d S1 v H1 q1 a1 r1 => ?_) fun x S1 c dx H1 q1 a1 r1 => exS re rs q1 a1 r1
  unfold asgT at q1
  exact q1 _ H1 a1 ((re.step a1.st rs).set r1 j)
theorem js_par {x y : Str} {p q : Expr} {ta : TAd} {px py pt : Pos} {kt k2 : Nat} {pt2 : Pos} (c : JC P w K mg base N sc vw k X W) (l j : Nat) (hl : N[l]? = some x) (hj : N[j]? = some y) (hlj : l ≠ j) (hx : sc.names.lookup x = some .local) (hy : sc.names.lookup y = some .local) (ha : JA X W [p, q] ta)
    (hw : swappedStores [.Tuple [.Name x px, .Name y py] kt pt] (.Tuple [p, q] k2 pt2) X.env = pure (some [x, y])) (hs : swapsWithSole [.Tuple [.Name x px, .Name y py] kt pt] (.Tuple [p, q] k2 pt2) pos.line X.env = pure false := by rfl) :
    JS X W (.Assign [.Tuple [.Name x px, .Name y py] kt pt] (.Tuple [p, q] k2 pt2) pos) (sPar [l, j] ta) := by
  refine ⟨PS.imp (ps_par c.calm (by rw [c.nn]; exact c.nd) (by rw [c.nn]; exact hl) (by rw [c.nn]; exact hj) hlj (by rw [c.ss]; exact hx) (by rw [c.ss]; exact hy) ha.pa hw hs) fun N σ H h => ?_, moPar ha.mo⟩
  obtain ⟨Z, env, S, re, rs, q⟩ := h
  refine LA.of ha.mo re rs q (fun ds S1 vs H1 q1 a1 r1 => ?_) fun x S1 c dx H1 q1 a1 r1 => exS re rs q1 a1 r1
  split at q1 <;> first | exact q1.elim | skip
  rename_i e1 ee
  have ln := asgL_len ee
  match ds, r1, ln, ee with
  | [d1, d2], r1, _, ee =>
    obtain ⟨v1, v2, rfl, r1, r2⟩ := r1.two
    refine ⟨v1, v2, rfl, ?_⟩
    simp only [List.map_cons, List.map_nil, asgL, asgT, Option.some.injEq] at ee
    subst ee
    exact q1 _ H1 a1 (((re.step a1.st rs).set r1 l).set r2 j)
theorem js_sub (ho : JE X W o to) (hi : JE X W i ti) (he : JE X W e te) (hs : swapsWithSole [.Subscript o i pos'] e pos.line X.env = pure false := by rfl) (hw : swappedStores [.Subscript o i pos'] e X.env = pure none := by rfl)
    (h1 : (assignEach [.Subscript o i pos'] X.env).map (·.2) = [assign (.Subscript o i pos') X.env] := by rfl)
    (ha : ∀ v, assign (.Subscript o i pos') X.env v = (do
      let ov ← holding [v] (eval o X.env)
      let iv ← holding [v, ov] (eval i X.env)
      standAt pos'
      holding [v, ov, iv] (setItem ov iv v)
      release [v, ov, iv] []) := by intro _; rfl) : JS X W (.Assign [.Subscript o i pos'] e pos) (sSub te to ti) := by
  refine ⟨PS.imp (ps_asg he.pe (pg_sub ho.pe hi.pe set_list ha) hs hw h1) fun N σ H h => ?_, moSub' he.mo ho.mo hi.mo⟩
  obtain ⟨Z, env, S, re, rs, q⟩ := h
  refine LE.of he.mo re rs q (fun d S1 v H1 q1 a1 r1 => ?_) fun x S1 c dx H1 q1 a1 r1 => exS re rs q1 a1 r1
  refine LE.of ho.mo (re.step a1.st rs) a1.rs q1 (fun d2 S2 ov H2 q2 a2 r2 => ?_) fun x S2 c dx H2 q2 a2 r2 => exS re rs q2 (a1.trans a2) r2
  have a12 := a1.trans a2
  refine LE.of hi.mo (re.step a12.st rs) a2.rs q2 (fun d3 S3 iv H3 q3 a3 r3 => ?_) fun x S3 c dx H3 q3 a3 r3 => exS re rs q3 (a12.trans a3) r3
  have a13 := a12.trans a3
  unfold setD at q3
  split at q3 <;> first | exact q3.elim | skip
  split at q3 <;> first | exact q3.elim | skip
  rename_i ad kk ds e0
  split at q3 <;> first | exact q3.elim | skip
  rename_i jj e1
  cases r2
  cases r3
  obtain ⟨vs, hl, rl⟩ := a3.rs.at_ _ _ e0
  have rv := Rp.step a3.st a2.rs _ _ (Rp.step a2.st a1.rs _ _ r1)
  refine ⟨_, vs, _, jj, rfl, rfl, hl, by rw [← rl.length]; exact e1, ?_⟩
  have a4 := Rp.putR a3.rs e0 (rl.set jj rv)
  exact q3 σ _ (a13.trans a4) (re.step (a13.trans a4).st rs)
theorem js_while {c : Expr} {body : List Stmt} (hd : JD P w K mg base N sc vw k X W) (hc : JT X W c tc) (hb : JB X W body t) : JS X W (.While c body [] pos) (sWhile tc t) := by
  refine ⟨PS.imp (ps_while hd.po hc.pt hb.ps) fun M σ H h => ?_, moWhile hc.mo hb.mo⟩
  obtain ⟨Z, env, S, re, rs, q⟩ := h
  obtain ⟨Wi, ⟨m0, w0⟩, turn⟩ := q
  refine ⟨fun m σ' H' => ∃ env' S', Aft ⟨X.K, Z⟩ S H S' H' ∧ RE ⟨X.K, Z⟩ S' H' env' σ' ∧ Wi m env' S', ⟨m0, env, S, .refl rs, re, w0⟩, fun m σ1 H1 hw => ?_⟩
  obtain ⟨env1, S1, a1, re1, w1⟩ := hw
  refine LT.of hc.mo re1 a1.rs (turn m env1 S1 w1) (fun b S2 H2 q2 a2 => ?_) fun x S2 c dx H2 q2 a2 r2 => q2 c dx σ1 H2 (a1.trans a2) (re1.step a2.st a1.rs) r2
  have a12 := a1.trans a2
  cases b with
  | false => exact iteF (q2 σ1 H2 a12 (re1.step a2.st a1.rs))
  | true =>
    refine iteT ⟨fun σ' H' => ∃ m', m' < m ∧ ∃ env' S', Aft ⟨X.K, Z⟩ S H S' H' ∧ RE ⟨X.K, Z⟩ S' H' env' σ' ∧ Wi m' env' S', fun σ' H' hh => hh, ?_⟩
    refine LS.of hb.mo (re1.step a2.st a1.rs) a2.rs q2 ⟨fun e s hh σ' H' a3 r3 => ?_, fun d s hh v H' a3 r3 => hh v H' (a12.trans a3) r3, fun e s hh σ' H' a3 r3 => hh σ' H' (a12.trans a3) r3, fun e s hh σ' H' a3 r3 => ?_, fun x e s hh c dx σ' H' a3 r3 rx => hh c dx σ' H' (a12.trans a3) r3 rx⟩
    · obtain ⟨m', hm, hw⟩ := hh
      exact ⟨m', hm, e, s, a12.trans a3, r3, hw⟩
    · obtain ⟨m', hm, hw⟩ := hh
      exact ⟨m', hm, e, s, a12.trans a3, r3, hw⟩
end

/-! ### what is walked -/
def WkD (K : Kz) (S : Sto) (H : Hp) (J : It) (ds : List D) : Prop := ∃ (G : Hp → Prop) (Y : Nat → Hp → V → Hp → Prop), Walk J ds.length G Y ∧ (∀ S' H', Step S H S' H' → G H') ∧
  ∀ (K' : Kz) i S' H' x H'', K'.K = K.K → Step S H S' H' → RS K' S' H' → (∀ d v, Rp K S H d v → Rp K' S' H' d v) → i < ds.length → Y i H' x H'' → Aft K' S' H' S' H'' ∧ ∃ d, ds[i]? = some d ∧ Rp K' S' H'' d x
def LI (K : PySem.W.Frag) (W : WX) (t : TAd) : TI := fun σ H R => ∃ Z env S, RE ⟨K, Z⟩ S H env σ ∧ RS ⟨K, Z⟩ S H ∧ t env S (fun ds S' => ∀ J H', Aft ⟨K, Z⟩ S H S' H' → WkD ⟨K, Z⟩ S' H' J ds → R J H') (PX ⟨K, Z⟩ S H σ W)
structure JI (X : Cx) (W : WX) (tg iter : Expr) (t : TAd) : Prop where
  pi : PI X tg iter (LI X.K W t)
  mo : MoE t
theorem LI.of {K : Kz} {W : WX} {S : Sto} {H : Hp} {env : Ev} {σ : L2.St} {t : TAd} (mo : MoE t) (re : RE K S H env σ) (rs : RS K S H) {C : List D → Sto → Prop} {E : EK} {R : It → Hp → Prop} (h : t env S C E)
    (hc : ∀ ds S1 J H1, C ds S1 → Aft K S H S1 H1 → WkD K S1 H1 J ds → R J H1) (he : ∀ x S1 c dx H1, E x S1 → Aft K S H S1 H1 → RX K S1 H1 x c dx → W c dx σ H1) : LI K.K W t σ H R :=
  ⟨K.Z, env, S, re, rs, mo _ _ _ _ _ _ (fun ds S1 q J H1 a wk => hc ds S1 J H1 q a wk) (fun x S1 q c dx H1 a r => he x S1 c dx H1 q a r) h⟩
section
variable {P : Program} {w : World} {K : PySem.W.Frag} {mg : Str → Option Value} {base : Heap} {N : List Str} {sc : Scope} {vw : Vw} {k : Nat} {X : Cx} {W : WX}
theorem js_for {tg iter : Expr} {body : List Stmt} {tb : TSd} {ti : TAd} {g : Tg} {pos : Pos} (hd : JD P w K mg base N sc vw k X W) (hi : JI X W tg iter ti) (hg : JG X tg g) (hb : JB X W body tb) (hs : ∀ x, foldedSetIterable iter X.env x = pure x := by intro _; rfl) : JS X W (.For tg iter body [] pos) (sFor ti g tb) := by
  refine ⟨PS.imp (ps_for hd.po hd.calm hi.pi hg.pg hb.ps hs) fun M σ H h => ?_, moFor hi.mo hb.mo⟩
  obtain ⟨Z, env, S, re, rs, q⟩ := h
  refine LI.of hi.mo re rs q (fun ds S1 J H1 q1 a1 wk => ?_) fun x S1 c dx H1 q1 a1 r1 => exS re rs q1 a1 r1
  obtain ⟨G, Y, wk, hG, hY⟩ := wk
  refine for_it wk (fun i σ' H' => ∃ env' S', Aft ⟨X.K, Z⟩ S1 H1 S' H' ∧ RE ⟨X.K, Z⟩ S' H' env' σ' ∧ forD g tb (ds.drop i) env' S' (LN ⟨X.K, Z⟩ S H W M)) ⟨env, S1, .refl a1.rs, re.step a1.st rs, q1⟩ (fun i σ' H' _ ⟨env', S', a, _, _⟩ => hG S' H' a.st) (fun i x σ' H' H'' hi hp y => ?_) fun σ' H' hp => ?_
  · obtain ⟨env', S', a, re', q'⟩ := hp
    obtain ⟨a2, d, ed, rd⟩ := hY ⟨X.K, Z⟩ i S' H' x H'' rfl a.st a.rs (fun d v r => Rp.step a.st a1.rs d v r) hi y
    have e0 : ds.drop i = d :: ds.drop (i + 1) := by
      rw [List.drop_eq_getElem_cons hi]
      congr 1
      rw [List.getElem?_eq_getElem hi] at ed
      exact Option.some.inj ed
    rw [e0] at q'
    unfold forD at q'
    split at q' <;> first | exact q'.elim | skip
    rename_i e1 ee
    have a3 := a.trans a2
    have a13 := a1.trans a3
    refine ⟨Z, env', S', d, e1, re'.step a2.st a.rs, a2.rs, rd, ee, fun σ2 r2 _ => ?_⟩
    refine LS.of hb.mo r2 a2.rs q' ⟨fun e s hh σ3 H3 a4 r3 => ⟨e, s, a3.trans a4, r3, hh⟩, fun d s hh v H3 a4 r3 => hh v H3 (a13.trans a4) r3, fun e s hh σ3 H3 a4 r3 => hh σ3 H3 (a13.trans a4) r3, fun e s hh σ3 H3 a4 r3 => ⟨e, s, a3.trans a4, r3, hh⟩, fun x e s hh c dx σ3 H3 a4 r3 rx => hh c dx σ3 H3 (a13.trans a4) r3 rx⟩
  · obtain ⟨env', S', a, re', q'⟩ := hp
    rw [List.drop_length] at q'
    unfold forD at q'
    exact q' σ' H' (a1.trans a) re'

/-! #### iterators -/
/-- a list or a tuple that stands still -/
def iVal (t : TEd) : TAd := fun env S Q E => t env S (fun d S1 => match d with
  | .tup ds => Q ds S1
  | .lst ds => Q ds S1
  | _ => False) E
theorem moIVal {t : TEd} (ht : MoE t) : MoE (iVal t) := fun env S Q Q' E E' h he q => ht _ _ _ _ _ _ (fun d S1 q1 => by
  cases d <;> first | exact h _ _ q1 | exact q1) he q
/-! ranges -/
def rngD (lo : Int) (n : Nat) : List D := (List.range n).map fun i : Nat => D.int (lo + i)
def iR1 (t : TAd) : TAd := fun env S Q E => t env S (fun ds S1 => match ds with
  | [.int j] => -(2 ^ 62) ≤ j ∧ j < 2 ^ 62 ∧ Q (rngD 0 j.toNat) S1
  | _ => False) E
def iR2 (t : TAd) : TAd := fun env S Q E => t env S (fun ds S1 => match ds with
  | [.int i, .int j] => (-(2 ^ 62) ≤ i ∧ i < 2 ^ 62 ∧ -(2 ^ 62) ≤ j ∧ j < 2 ^ 62) ∧ Q (rngD i (j - i).toNat) S1
  | _ => False) E
theorem moR1 {t : TAd} (ht : MoE t) : MoE (iR1 t) := fun env S Q Q' E E' h he q => ht _ _ _ _ _ _ (fun ds S1 q1 => by
  split at q1
  · exact ⟨q1.1, q1.2.1, h _ _ q1.2.2⟩
  · exact q1.elim) he q
theorem moR2 {t : TAd} (ht : MoE t) : MoE (iR2 t) := fun env S Q Q' E E' h he q => ht _ _ _ _ _ _ (fun ds S1 q1 => by
  split at q1
  · exact ⟨q1.1, h _ _ q1.2⟩
  · exact q1.elim) he q
theorem wk_rng {K : Kz} {S : Sto} {H : Hp} {lo : Int} {n : Nat} : WkD K S H (Itr lo n) (rngD lo n) := by
  have hl : (rngD lo n).length = n := by simp [rngD]
  refine ⟨fun _ => True, YFn fun i => .int (lo + i), by rw [hl]; exact walk_range, fun _ _ _ => trivial, fun K' i S' H' x H'' _ _ rs' tr hi y => ?_⟩
  obtain ⟨rfl, rfl⟩ := y
  rw [hl] at hi
  exact ⟨.refl rs', .int (lo + i), by simp [rngD, hi], .int _⟩
theorem PI.imp {X : Cx} {tg e : Expr} {t u : TI} (h : PI X tg e t) (k : ∀ σ H Q, u σ H Q → t σ H Q) : PI X tg e u := ⟨fun pins s σ H Q I q => h.run pins s σ H Q I (k σ H Q q)⟩
theorem ji_r1 {tg e : Expr} {ta : TAd} {p pos : Pos} (c : JC P w K mg base N sc vw k X W) (hx : ("range" : Str) ∈ vw.gs) (hm : mg "range" = none) (ha : JA X W [e] ta) (hs : starEach [e] X.env = [(false, eval e X.env)] := by rfl) : JI X W tg (.Call (.Name "range" p) [e] [] pos) (iR1 ta) := by
  refine ⟨PI.imp (pi_range1 (c.gl hx) (by rw [c.gg]; exact hm) ha.pa hs) fun σ H R h => ?_, moR1 ha.mo⟩
  obtain ⟨Z, env, S, re, rs, q⟩ := h
  refine LA.of ha.mo re rs q (fun ds S1 vs H1 q1 a1 r1 => ?_) fun x S1 c dx H1 q1 a1 r1 => q1 c dx H1 a1 r1
  split at q1 <;> first | exact q1.elim | skip
  obtain ⟨v, rfl, r2⟩ := r1.one
  cases r2
  exact ⟨_, rfl, q1.1, q1.2.1, q1.2.2 _ H1 a1 wk_rng⟩
end

/-! ### list comprehensions -/
def wipeD (env : Ev) : List Nat → Ev
  | [] => env
  | v :: vs => (wipeD env vs).set v none
theorem RE.wipe {K : Kz} {S : Sto} {H : Hp} {env : Ev} {σ : L2.St} (re : RE K S H env σ) : ∀ vs : List Nat, RE K S H (wipeD env vs) (wipe σ vs)
  | [] => re
  | v :: vs => (RE.wipe re vs).unset v
abbrev EF : EK := fun _ _ => False
def lcGo (g : Tg) (tt : TTd) (te : TEd) (env : Ev) : List D → Sto → (List D → Sto → Prop) → Prop
  | [], S, Q => Q [] S
  | d :: ds, S, Q => match asgT S g d env with
    | some e1 => tt e1 S (fun b S1 => if b = true then te e1 S1 (fun y S2 => lcGo g tt te env ds S2 fun ys S3 => Q (y :: ys) S3) EF else lcGo g tt te env ds S1 Q) EF
    | none => False
def dLc (ti : TAd) (g : Tg) (tt : TTd) (te : TEd) (vs : List Nat) : TEd := fun env S Q E => ti env S (fun ds S1 => ds.length < sizeLine ∧ lcGo g tt te (wipeD env vs) ds S1 fun ys S2 => Q (.lst ys) S2) E
/-- the list that is made is to be grown -/
def dLcR (ti : TAd) (g : Tg) (tt : TTd) (te : TEd) (vs : List Nat) : TEd := fun env S Q E => ti env S (fun ds S1 => ds.length < sizeLine ∧ lcGo g tt te (wipeD env vs) ds S1 fun ys S2 => ∀ a, S2 a = none → Q (.ref a) (sup S2 a ys)) E
theorem moLcGo {g : Tg} {tt : TTd} {te : TEd} (ht : MoE tt) (he : MoE te) (env : Ev) : ∀ (ds : List D) (S : Sto) (Q Q' : List D → Sto → Prop), (∀ ys S, Q ys S → Q' ys S) → lcGo g tt te env ds S Q → lcGo g tt te env ds S Q'
  | [], S, Q, Q', h, q => h _ _ q
  | d :: ds, S, Q, Q', h, q => by
    unfold lcGo at q ⊢
    split at q <;> first | exact q.elim | skip
    refine ht _ _ _ _ _ _ (fun b S1 q1 => ?_) (fun _ _ z => z) q
    cases b with
    | false => exact iteF (moLcGo ht he env ds S1 Q Q' h q1)
    | true => exact iteT (he _ _ _ _ _ _ (fun y S2 q2 => moLcGo ht he env ds S2 _ _ (fun ys S3 q3 => h _ _ q3) q2) (fun _ _ z => z) q1)
theorem moLc {ti : TAd} {g : Tg} {tt : TTd} {te : TEd} {vs : List Nat} (hi : MoE ti) (ht : MoE tt) (he : MoE te) : MoE (dLc ti g tt te vs) := fun env S Q Q' E E' h hx q => hi _ _ _ _ _ _ (fun ds S1 q1 => ⟨q1.1, moLcGo ht he _ _ _ _ _ (fun ys S2 q2 => h _ _ q2) q1.2⟩) hx q
def tYesD : TTd := fun _ S Q _ => Q true S
theorem moYesD : MoE tYesD := fun env S Q Q' E E' h he q => h _ _ q
structure JTs (X : Cx) (W : WX) (ifs : List Expr) (t : TTd) : Prop where
  pt : PTs X ifs (LT X.K W t)
  mo : MoE t
abbrev W0 : WX := fun _ _ _ _ => False
section
variable {P : Program} {w : World} {K : PySem.W.Frag} {mg : Str → Option Value} {base : Heap} {N : List Str} {sc : Scope} {vw : Vw} {k : Nat} {X : Cx} {W : WX}
variable {elt tg iter : Expr} {ifs : List Expr} {scope : Scope} {pos : Pos} {ti : TAd} {g : Tg} {tt : TTd} {te : TEd} {own : List (Str × Nat)} {vw2 : Vw}
end

/-! ### methods of lists that are grown -/
abbrev GM := Addr → List D → Sto → DK → Prop
def dLm (f : GM) (to : TEd) (ta : TAd) : TEd := fun env S Q E => to env S (fun o S1 => match o with
  | .ref a => (S1 a).isSome = true ∧ ta env S1 (fun ds S2 => f a ds S2 Q) E
  | _ => False) E
structure MtD (X : Cx) (id : String) (f : GM) : Prop where
  mo : ∀ a ds S (Q Q' : DK), (∀ d S, Q d S → Q' d S) → f a ds S Q → f a ds S Q'
  run : MtR X id fun x vs H Q => ∃ Z S a ds, x = .ref a ∧ RS ⟨X.K, Z⟩ S H ∧ RpL ⟨X.K, Z⟩ S H ds vs ∧ f a ds S (PQ ⟨X.K, Z⟩ S H Q)
theorem moLm {f : GM} {to : TEd} {ta : TAd} (hf : ∀ a ds S (Q Q' : DK), (∀ d S, Q d S → Q' d S) → f a ds S Q → f a ds S Q') (h1 : MoE to) (h2 : MoE ta) : MoE (dLm f to ta) := fun env S Q Q' E E' h he q => h1 _ _ _ _ _ _ (fun o S1 q1 => by
  cases o <;> first | exact q1 | exact ⟨q1.1, h2 _ _ _ _ _ _ (fun ds S2 q2 => hf _ _ _ _ _ h q2) he q1.2⟩) he q
section
variable {X : Cx} {W : WX} {o e : Expr} {es : List Expr} {to : TEd} {ta : TAd} {name : Str} {apos cpos : Pos} {id : String} {f : GM}
theorem je_lm (slot : Slot "list" name id) (hty : typeOf (.builtin id) = pure (.type "method_descriptor")) (hm : MtD X id f) (ho : JE X W o to) (ha : JA X W (e :: es) ta)
    (hbase : attributeBase o name X.env (eval o X.env) = eval o X.env := by rfl)
    (hfew : ((backTo cpos (starEach (e :: es) X.env)).all (fun x => !x.1) && (backToKw cpos (keywordEach [] X.env)).all (fun x => x.1.isSome) && decide ((e :: es).length + ([] : List Keyword).length + (if ([] : List Keyword).isEmpty then 0 else 1) < 30)) = true := by rfl)
    (hline : (apos.endLine == cpos.line) = true := by rfl) (hs : starEach (e :: es) X.env = (false, eval e X.env) :: starEach es X.env := by rfl) (hplain : (backTo cpos (starEach es X.env)).any (·.1) = false := by rfl) :
    JE X W (.Call (.Attribute o name apos) (e :: es) [] cpos) (dLm f to ta) := by
  refine ⟨PE.imp (pe_bm PySem.F.plainAttrs_list slot hty hm.run ho.pe ha.pa hbase hfew hline hs hplain) fun σ H Q h => ?_, moLm hm.mo ho.mo ha.mo⟩
  obtain ⟨Z, env, S, re, rs, q⟩ := h
  refine LE.of ho.mo re rs q (fun d S1 v H1 q1 a1 r1 => ?_) fun x S1 c dx H1 q1 a1 r1 => q1 c dx H1 a1 r1
  cases d <;> first | exact q1.elim | skip
  rename_i a
  cases r1
  obtain ⟨ds, e1⟩ := Option.isSome_iff_exists.mp q1.1
  obtain ⟨vs, hl, _⟩ := a1.rs.at_ a ds e1
  refine ⟨.inl ⟨rfl, vs, SqL.of hl⟩, LA.of ha.mo (re.step a1.st rs) a1.rs q1.2 (fun ds2 S2 vs2 H2 q2 a2 r2 => ?_) fun x S2 c dx H2 q2 a2 r2 => q2 c dx H2 (a1.trans a2) r2⟩
  exact ⟨Z, S2, a, ds2, rfl, a2.rs, r2, hm.mo _ _ _ _ _ (fun d S3 q3 => PQ.after (a1.trans a2) q3) q2⟩
def gApp : GM := fun a ds S Q => match ds with
  | [d] => match S a with
    | some xs => xs.length < sizeLine ∧ Q .non (sup S a (xs ++ [d]))
    | none => False
  | _ => False
theorem md_append : MtD X "list.append" gApp := by
  refine ⟨fun a ds S Q Q' h q => ?_, fun pins s σ H x xs v us Q I rx rv h => ?_⟩
  · unfold gApp at q ⊢
    split at q <;> first | exact q.elim | skip
    split at q <;> first | exact q.elim | exact ⟨q.1, h _ _ q.2⟩
  · obtain ⟨Z, S, a, ds, rfl, rs, rl, q⟩ := h
    unfold gApp at q
    split at q <;> first | exact q.elim | skip
    split at q <;> first | exact q.elim | skip
    rename_i d _ ys e
    obtain ⟨y, rfl, r1⟩ := rl.one
    obtain ⟨vs, hl, rv2⟩ := rs.at_ a ys e
    refine mt_append pins s σ H _ _ v us Q I rx rv ⟨a, vs, y, rfl, rfl, hl, by rw [← rv2.length]; exact q.1, ?_⟩
    exact q.2 _ _ (Rp.putR rs e (rv2.append (.cons r1 .nil))) .non
theorem je_append (ho : JE X W o to) (ha : JA X W [e] ta) (hbase : attributeBase o "append" X.env (eval o X.env) = eval o X.env := by rfl) (hline : (apos.endLine == cpos.line) = true := by rfl) (hs : starEach [e] X.env = (false, eval e X.env) :: starEach [] X.env := by rfl)
    (hfew : ((backTo cpos (starEach [e] X.env)).all (fun x => !x.1) && (backToKw cpos (keywordEach [] X.env)).all (fun x => x.1.isSome) && decide ([e].length + ([] : List Keyword).length + (if ([] : List Keyword).isEmpty then 0 else 1) < 30)) = true := by rfl) : JE X W (.Call (.Attribute o "append" apos) [e] [] cpos) (dLm gApp to ta) :=
  je_lm PySem.F.slot_list_append PySem.F.type_list_append md_append ho ha hbase hfew hline hs rfl
end

/-! ### raise, try -/
def sRaise (x : Str) : TSd := fun env S N => N.ex ⟨x, []⟩ env S
/-- a try whose body raises nothing -/
def sThru (t u : TSd) : TSd := fun env S N => t env S { N with nx := fun e s => u e s N, ex := fun _ _ _ => False }
end Bl

namespace Bl
open PySem PySem.Spec PyProof.Rows L2

/-! ### a def -/
/-- what the body makes of the arguments: n parameters, l names -/
def fnD (n l : Nat) (tb : TSd) : TFd := fun ds S Q E => ds.length = n ∧ tb (ds.map some ++ List.replicate (l - n) none) S ⟨fun _ S1 => Q .non S1, Q, fun _ _ => False, fun _ _ => False, fun x _ S1 => E x S1⟩
theorem moFn {n l : Nat} {tb : TSd} (h : MoS tb) : MoF (fnD n l tb) := fun ds S Q Q' E E' hq he q => ⟨q.1, h _ _ ⟨fun _ S1 => Q .non S1, Q, fun _ _ => False, fun _ _ => False, fun x _ S1 => E x S1⟩ _ ⟨fun _ _ z => hq _ _ z, hq, fun _ _ z => z, fun _ _ z => z, fun x _ S z => he x S z⟩ q.2⟩
section
variable {P : Program} {w : World} {K : PySem.W.Frag} {mg : Str → Option Value} {base : Heap} {N ps : List Str} {sc : Scope} {vw : Vw} {k : Nat}
/-- some context -/
theorem JD.some (sC : Sc N sc vw) (nd : N.Nodup) (hk : sc.kind = .function) (hr : Room k callerA) : ∃ X W, JD P w K mg base N sc vw k X W := by
  refine ⟨⟨P, w, K, mg, base, callerA, N, {}, fun _ => none, envOfC "" sc 0 0 .none, [], [envOfC "" sc 0 0 .none], [], fun _ => true, true, [], fun _ _ => False⟩, W0, ?_⟩
  exact { prog := rfl, ww := rfl, kk := rfl, gg := rfl, bb := rfl, nn := rfl, ss := rfl, sC := sC, nd := nd, calm := rfl, room := hr, tk := takes0, kd := hk, po := .never, fn := fun _ => rfl, hs := rfl, hf := rfl }
/-- a def's body keeps the promise -/
theorem fnOk_of {x qual : Str} {params : Arguments} {body : List Stmt} {scope : Scope} {f : Addr} {oc dV kV doc pm cdv ct : Value} {od an : Option Addr} {osl : Array (Option Value)} {tb : TSd} (lk : K.lookup f = some ⟨oc, od, .func (PySem.W.fnOf x qual params body scope dV kV doc pm an cdv ct), osl⟩) (hcd : PySem.W.codeIn K cdv qual = true)
    (S : FnScope N ps scope) (sC : Sc N scope vw) (h : ∀ X W, JD P w K mg base N scope vw k X W → JB X W body tb) :
    FnOk P w K mg base (L2.CX P w) (k + 1) f (PySem.W.fnOf x qual params body scope dV kV doc pm an cdv ct) ps (LSp K ps.length (fnD ps.length N.length tb)) := by
  refine fn_of lk hcd S (fun vs H Q E h => ?_) fun A outer s H vs Q E hr hsp => ?_
  · obtain ⟨Z, ds, S, hl, r, _⟩ := h
    rw [← r.length]
    exact hl
  · obtain ⟨Z, ds, S0, hl, r, rs, _, q⟩ := hsp
    have jd : JD P w K mg base N scope vw k (cxOf (L2.CX P w) P w K mg base N qual scope f cdv A outer s H E) fun cls d _ H => E cls d H :=
      { prog := rfl, ww := rfl, kk := rfl, gg := rfl, bb := rfl, nn := rfl, ss := rfl, sC := sC, nd := S.nd, calm := rfl, room := hr, tk := takes_of rfl rfl rfl rfl, kd := S.kind, po := passes_of rfl, fn := fun _ => rfl, hs := rfl, hf := rfl }
    have jb := h _ _ jd
    refine ⟨_, jb.ps, LS.of (K := ⟨K, Z⟩) jb.mo (env := ds.map some ++ List.replicate (N.length - ps.length) none) ?_ rs q ⟨fun _ S1 z σ' H' a _ => z _ H' a .non, fun d S1 z v H' a r => z v H' a r, fun _ _ z => z.elim, fun _ _ z => z.elim, fun x _ S1 z c dx σ' H' a _ rx => z c dx H' a rx⟩⟩
    have z := RE.start r (N.length - ps.length)
    unfold L2.start
    rw [← r.length, hl]
    exact z
theorem moS_of {scope : Scope} {body : List Stmt} {tb : TSd} (S : FnScope N ps scope) (sC : Sc N scope vw) (hr : Room k callerA) (h : ∀ X W, JD P w K mg base N scope vw k X W → JB X W body tb) : MoS tb := by
  obtain ⟨X, W, jd⟩ := JD.some (P := P) (w := w) (K := K) (mg := mg) (base := base) sC S.nd S.kind hr
  exact (h X W jd).mo
end

/-! ### the law -/
/-- a list of at most n ints is handed in, True comes out -/
def spLaw (K : PySem.W.Frag) (n : Nat) : Sp := fun vs H Q _ => ∃ (a : Addr) (ns : List Int), vs = [.ref a] ∧ SqL K H a (ns.map V.int) ∧ ns.length ≤ n ∧ Only H ∧ ∀ H', Q (.bl true) H'
theorem law_sp {K : PySem.W.Frag} {n : Nat} {m : TFd} (mo : MoF m) (h : ∀ ns : List Int, ns.length ≤ n → m [.lst (ns.map D.int)] (fun _ => none) (fun d _ => d = .bl true) fun _ _ => False) : ∀ vs H Q E, spLaw K n vs H Q E → LSp K 1 m vs H Q E := by
  intro vs H Q E hh
  obtain ⟨a, ns, rfl, hS, hl, ho, q⟩ := hh
  have r : Rp ⟨K, fun _ => False⟩ (fun _ => none) H (.lst (ns.map D.int)) (.ref a) := by
    rcases hS with hS | hS
    · exact .lst hS rfl (fun z => z) RpL.ints
    · exact .lstK hS RpL.ints
  refine ⟨fun _ => False, [.lst (ns.map D.int)], fun _ => none, rfl, .cons r .nil, ⟨fun _ _ e => (nomatch e), fun _ hb => False.elim hb⟩, mo _ _ _ _ _ _ (fun d S1 e v H' a2 r2 => ?_) (fun x S1 z => z.elim) (h ns hl)⟩
  subst e
  cases r2
  exact q H'
end Bl

namespace Bl
open PySem PySem.Spec PyProof.Rows L2

/-! ### n.bit_length() -/
def dBits (t : TEd) : TEd := fun env S Q E => t env S (fun d S' => match d with | .int i => Q (.int (Builtin.Int.intBits i : Nat)) S' | _ => False) E
section
variable {X : Cx} {W : WX} {o : Expr} {to : TEd} {apos pos : Pos}
end

/-! ### sorted, of whole numbers -/
/-! ### a op= b -/
def fIadd : F2 := fun x y S Q => match x, y with
  | .int i, .int j => Q (.int (i + j)) S
  | .str i, .str j => i.length + j.length ≤ sizeLine ∧ Q (.str (i ++ j)) S
  | _, _ => False
section
variable {X : Cx}
end

/-! ### a try that is run through -/
section
variable {P : Program} {w : World} {K : PySem.W.Frag} {mg : Str → Option Value} {base : Heap} {N : List Str} {sc : Scope} {vw : Vw} {k : Nat} {X : Cx} {W : WX}
end

/-! ### constants of the module -/
/-! ### defs with defaults -/
section
variable {P : Program} {w : World} {K : PySem.W.Frag} {mg : Str → Option Value} {base : Heap} {N ps : List Str} {vw : Vw} {k : Nat}
end
end Bl

namespace Bl
open PySem PySem.Spec PyProof.Rows L2

/-! ### pairs stored from the right -/
theorem blk_fn {env : Env} (h : env.scope.kind = .function) : env.blockKind = .function := by unfold Env.blockKind; rw [h]; rfl
def isStar : Expr → Bool
  | .Starred .. => true
  | _ => false
def swNm (env : Env) (line : Nat) : Expr → Option Str
  | .Name id pos => if env.kindOf id == some .local && pos.line == line then some id else none
  | _ => none
theorem sw_eq {ts vs : List Expr} {kt k2 : Nat} {pt pt2 : Pos} {env : Env} (hk : env.scope.kind = .function) (hl : ts.length = 2 ∨ ts.length = 3) (hv : vs.length = ts.length) (hs : vs.any isStar = false) :
    swappedStores [.Tuple ts kt pt] (.Tuple vs k2 pt2) env = (do
      let names := ts.filterMap (swNm env ((ts.head?.map (·.pos.line)).getD 0))
      if names.length != ts.length || names.eraseDups.length != names.length then return none
      if vs.all (foldedForSure 8) then return none
      if vs.all (constantsAlone 8) then unsupported "assign.tuple-of-constant-expressions:order-of-the-stores"
      return some names) := by
  have e1 : (!(ts.length == 2 || ts.length == 3) || vs.length != ts.length || env.blockKind != .function) = false := by
    rw [blk_fn hk, hv]
    rcases hl with h | h <;> rw [h] <;> rfl
  unfold swappedStores
  show (if (!(ts.length == 2 || ts.length == 3) || vs.length != ts.length || env.blockKind != .function) = true then (pure none : Sem (Option (List Str))) else if vs.any isStar = true then pure none else _) = _
  rw [e1, hs]
  rfl
theorem sw2 {x y : Str} {p q : Expr} {px py pt pt2 : Pos} {kt k2 : Nat} {env : Env} (hk : env.scope.kind = .function) (hx : env.scope.names.lookup x = some .local) (hy : env.scope.names.lookup y = some .local) (hl : (py.line == px.line) = true) (hne : (y == x) = false)
    (hs : [p, q].any isStar = false) (hf : [p, q].all (foldedForSure 8) = false) (hc : [p, q].all (constantsAlone 8) = false) : swappedStores [.Tuple [.Name x px, .Name y py] kt pt] (.Tuple [p, q] k2 pt2) env = pure (some [x, y]) := by
  rw [sw_eq (ts := [.Name x px, .Name y py]) (vs := [p, q]) hk (.inl rfl) rfl hs]
  have kx : env.kindOf x = some .local := hx
  have ky : env.kindOf y = some .local := hy
  have e1 : (some NameKind.local == some NameKind.local) = true := rfl
  have e : [Expr.Name x px, .Name y py].filterMap (swNm env px.line) = [x, y] := by
    simp only [List.filterMap_cons, List.filterMap_nil, swNm, kx, ky, e1, hl, beq_self_eq_true, Bool.and_self, if_true]
  show (do
      let names := [Expr.Name x px, .Name y py].filterMap (swNm env px.line)
      if names.length != 2 || names.eraseDups.length != names.length then return none
      if [p, q].all (foldedForSure 8) then return none
      if [p, q].all (constantsAlone 8) then unsupported "assign.tuple-of-constant-expressions:order-of-the-stores"
      return some names) = _
  rw [e, hf, hc]
  have e5 : [x, y].eraseDups.length = 2 := by simp [List.eraseDups_cons, hne]
  simp only [e5]
  rfl
section
variable {P : Program} {w : World} {K : PySem.W.Frag} {mg : Str → Option Value} {base : Heap} {N ps : List Str} {vw : Vw} {k : Nat} {X : Cx} {W : WX}
/-! ### defs by their data -/
/-- no defaults by places, called by places -/
theorem jf_mkN {x qual : Str} {params : Arguments} {body : List Stmt} {scope : Scope} {kws : List (Str × V)} {f : Addr} {fd : FuncData} {tb : TSd} (F : FunD K x qual params body scope [] kws f fd) (S : FnScope N ps scope) (sC : Sc N scope vw) (mgx : mg x = some (.ref f)) (hr : Room k callerA)
    (hb : ∀ (kV doc pm : Value) (an : Option Addr) (cdv ct : Value) (us : List Value), us.length = ps.length → bindArgs (PySem.W.fnOf x qual params body scope .none kV doc pm an cdv ct) ⟨us, []⟩ = pure (ps.zip us))
    (h : ∀ X W, JD P w K mg base N scope vw k X W → JB X W body tb) : JF P w K mg base x ps.length [] (fun ds _ => ds) (k + 1) (fnD ps.length N.length tb) := by
  obtain ⟨oc, od, dV, kV, doc, pm, an, cdv, ct, osl, rfl, lk, hcd, hD, _⟩ := F.ex
  rcases hD with ⟨_, rfl⟩ | ⟨e, _⟩
  · refine ⟨⟨f, _, ps, fun us _ => us, fun vs _ => vs, mgx, F.kp, fnOk_of lk hcd S sC h, ⟨fun s us ws _ l1 l2 => ?_, fun r _ => r⟩, fun Z S H ds zs vs ws r _ l1 _ => ⟨r, l1⟩⟩, moFn (moS_of S sC hr h)⟩
    exact .of_eq (hb kV doc pm an cdv ct us l1)
  · exact absurd rfl e
/-- with defaults by places; of np values the defaults behind the first j fill up -/
theorem jf_mkF {x qual : Str} {params : Arguments} {body : List Stmt} {scope : Scope} {dvs : List V} {kws : List (Str × V)} {f : Addr} {fd : FuncData} {tb : TSd} (np j : Nat) (dds : List D) (F : FunD K x qual params body scope dvs kws f fd) (S : FnScope N ps scope) (sC : Sc N scope vw) (mgx : mg x = some (.ref f)) (hr : Room k callerA)
    (hd : dvs ≠ []) (hn : np + (dvs.length - j) = ps.length) (hdd : ∀ Z S H, RpL ⟨K, Z⟩ S H dds (dvs.drop j))
    (hb : ∀ (T : Addr) (kV doc pm : Value) (an : Option Addr) (cdv ct : Value) (us its : List Value), us.length = np → its.length = dvs.length →
      ∃ k, bindArgs (PySem.W.fnOf x qual params body scope (.ref T) kV doc pm an cdv ct) ⟨us, []⟩ = seqItems? (.ref T) >>= k ∧ k (some its.toArray) = pure (ps.zip (us ++ its.drop j)))
    (h : ∀ X W, JD P w K mg base N scope vw k X W → JB X W body tb) : JF P w K mg base x np [] (fun ds _ => ds ++ dds) (k + 1) (fnD ps.length N.length tb) := by
  obtain ⟨oc, od, dV, kV, doc, pm, an, cdv, ct, osl, rfl, lk, hcd, hD, _⟩ := F.ex
  rcases hD with ⟨e, _⟩ | ⟨_, T, o, its, m, rfl, lT, oT, rT⟩
  · exact absurd e hd
  · refine ⟨⟨f, _, ps, fun us _ => us ++ its.drop j, fun vs _ => vs ++ dvs.drop j, mgx, F.kp, fnOk_of lk hcd S sC h, ⟨fun s us ws X l1 l2 => ?_, fun {vs us zs ws} r1 r2 => r1.append (rT.drop j)⟩, fun Z S H ds zs vs ws r _ l1 _ => ⟨r.append (hdd _ _ _), ?_⟩⟩, moFn (moS_of S sC hr h)⟩
    · obtain ⟨k, e1, e2⟩ := hb T kV doc pm an cdv ct us its l1 rT.length.symm
      refine BindsTo.of_looks fun M => ?_
      show PySem.W.Looks M s.heap (bindArgs _ ⟨us, []⟩) _
      rw [e1]
      exact looks_items X lT oT (.of_pure e2)
    · rw [List.length_append, l1, (hdd Z S H).length, List.length_drop, hn]
/-- a def's promise, its object kept -/
theorem ok_mkN {x qual : Str} {params : Arguments} {body : List Stmt} {scope : Scope} {kws : List (Str × V)} {f : Addr} {fd : FuncData} {tb : TSd} (F : FunD K x qual params body scope [] kws f fd) (S : FnScope N ps scope) (sC : Sc N scope vw)
    (h : ∀ X W, JD P w K mg base N scope vw k X W → JB X W body tb) : FnOk P w K mg base (L2.CX P w) (k + 1) f fd ps (LSp K ps.length (fnD ps.length N.length tb)) := by
  obtain ⟨oc, od, dV, kV, doc, pm, an, cdv, ct, osl, rfl, lk, hcd, hD, _⟩ := F.ex
  exact fnOk_of lk hcd S sC h
theorem mm {α : Type} {l : List α} {a : α} (j : Nat) (h : l[j]? = some a := by rfl) : a ∈ l := List.mem_of_getElem? h
/-- what the top tells: facts, defs, one thing more -/
structure Tp (fa : List He.Fa) (fn : List He.DefD) (bx : PySem.W.Frag → Bool) (K : PySem.W.Frag) (mg : Str → Option Value) : Prop where
  sy : He.SaysD fa fn K
  bx : bx K = true
  gl : ∀ x, (He.Fa.glo x).ok K = true → mg x = some (.ref (He.ga K x))
  fr : ∀ x, (He.Fa.free x).ok K = true → mg x = none
section
variable {fa : List He.Fa} {fn : List He.DefD} {bx : PySem.W.Frag → Bool}
theorem Tp.mk' {h : Heap} (X : K.In h) (G : h.Ns mainGlobals mg) (c : He.SaysD fa fn K ∧ bx K = true) : Tp fa fn bx K mg := ⟨c.1, c.2, fun _ q => He.glo_ok X G q, fun _ q => He.free_ok X G q⟩
theorem Tp.glo (T : Tp fa fn bx K mg) (i : Nat) {x : Str} (h : fa[i]? = some (.glo x) := by rfl) : mg x = some (.ref (He.ga K x)) := T.gl x (T.sy.fact i h)
theorem Tp.free (T : Tp fa fn bx K mg) (i : Nat) {x : Str} (h : fa[i]? = some (.free x) := by rfl) : mg x = none := T.fr x (T.sy.fact i h)
end
end

/-! ### the head's reading -/
def hookX (n : Nat) (fa : List He.Fa) (fn : List He.DefD) (bx : PySem.W.Frag → Bool) : PySem.W.Hook where
  α := Bool × He.AlD
  obs := fun s => (bx (He.frG s.heap.get? (He.asD s.heap.get? n)), He.obsDG n fa fn s.heap.get?)
  val := fun _ => (true, He.valD fn)
  says := fun _ h => ∃ K : PySem.W.Frag, K.In h ∧ He.SaysD fa fn K ∧ bx K = true
  of := fun _ _ e => ⟨_, He.frG_in, congrArg (fun z : Bool × He.AlD => z.2) e, congrArg (fun z : Bool × He.AlD => z.1) e⟩
  keeps := fun _ _ _ ⟨K, hK, c⟩ k => ⟨K, PySem.W.Frag.In.keeps hK k, c⟩
def obX (n : Nat) (fa : List He.Fa) (fn : List He.DefD) (bx : PySem.W.Frag → Bool) (s : PySem.W.SharedT) : Bool × He.AlD := (bx (He.frG (HandSHeadRun.getT s) (He.asD (HandSHeadRun.getT s) n)), He.obsDG n fa fn (HandSHeadRun.getT s))
theorem obX_eq {n : Nat} {fa : List He.Fa} {fn : List He.DefD} {bx : PySem.W.Frag → Bool} (s : PySem.W.SharedT) : obX n fa fn bx s = (hookX n fa fn bx).obs s.abs := by
  have e : HandSHeadRun.getT s = s.abs.heap.get? := funext (HandSHeadRun.getT_eq s)
  unfold obX
  rw [e]
  rfl
/-- the end, what leaves a call told of each world -/
theorem walk_ofX {l : PySem.W.OpenLaw} {n k : Nat} {q : Program} {loose : List Str} {XP : (Str → Option Value) → Heap → Prop} {YP : World → Heap → Prop} {d : DefRec} {x : Str} (hn : l.most = some n) (hn2 : n ≤ sizeLine) (hdf : d.params.defaults = []) (hr : Room k callerA)
    (F : ∀ (w : World) (mg : Str → Option Value) (fa : Addr) (h : Heap), YP w h → h.Ns mainGlobals mg → mg d.name = some (.ref fa) → ∃ (K : PySem.W.Frag) (fd : FuncData), K.In h ∧ (∀ (s : Shared) (u : Value), BindsTo s fd ⟨[u], []⟩ [(x, u)]) ∧ ∀ base : Heap, K.In base → base.Ns mainGlobals mg → FnOk l.prog w K mg base (L2.CX l.prog w) k fa fd [x] (spLaw K n)) : PySem.W.WalkO q loose XP YP l.row.toRowW d [] (fun f vs => PySem.call f vs) := by
  refine Att.attach_call hn hdf fun w s0 s1 mg mb fa o pm cd doc a vs ns G Y ho hd hcd hmg hobj hints hlen hg => ?_
  obtain ⟨K, fd, KX, hb, hF⟩ := F w mg fa _ Y G.T.g hmg
  refine law_call KX G.T.g G.T.b G.T.builtins G.T.nolimit hg hobj hints (Nat.le_trans hlen hn2) hr hF hb (fun H hO hS => ⟨a, ns, rfl, hS, hlen, hO, fun _ => rfl⟩) fun H e s' z => ?_
  obtain ⟨_, _, _, _, _, _, _, _, _, _, _, _, z⟩ := z
  exact z
end Bl

namespace Bl
open PySem PySem.Spec PyProof.Rows L2
/-! ### monotony by shape -/
end Bl

namespace Bl
open PySem PySem.Spec PyProof.Rows L2
/-! ### within an except suite: no calls of defs, nothing is raised -/
structure JC0 (K : PySem.W.Frag) (mg : Str → Option Value) (N : List Str) (sc : Scope) (vw : Vw) (X : Cx) : Prop where
  kk : X.K = K
  gg : X.mg = mg
  nn : X.N = N
  ss : X.env.scope = sc
  sC : Sc N sc vw
  nd : N.Nodup
section
variable {K : PySem.W.Frag} {mg : Str → Option Value} {N : List Str} {sc : Scope} {vw : Vw} {X : Cx} {W : WX}
theorem JC0.gl (c : JC0 K mg N sc vw X) {x : Str} (h : x ∈ vw.gs) : Gl X x := by
  show X.env.scope.names.lookup x = some .globalImplicit
  rw [c.ss]
  exact (c.sC.gl x h).1
theorem jv0 (c : JC0 K mg N sc vw X) (i : Nat) {x : Str} {pos : Pos} (hi : i ∈ vw.vl) (hN : N[i]? = some x) : JE X W (.Name x pos) (vr i) := by
  obtain ⟨v1, v2, v3⟩ := c.sC.vis i hi x hN
  refine ⟨PE.imp (pe_var (i := i) (by rw [c.nn]; exact hN) (by rw [c.ss]; exact v1) v2 v3) fun σ H Q h => ?_, moVr i⟩
  obtain ⟨Z, env, S, re, rs, q⟩ := h
  unfold vr at q
  split at q
  · rename_i d e
    obtain ⟨v, e1, r⟩ := re.at_ i d e
    exact ⟨v, e1, q v H (.refl rs) r⟩
  · exact q.elim
theorem js_set0 (c : JC0 K mg N sc vw X) (j : Nat) {x : Str} {e : Expr} {te : TEd} {pos pos' : Pos} (hi : N[j]? = some x) (hx : j ∈ vw.lo) (he : JE X W e te) (hs : swapsWith e (some (.Name x pos')) pos.line X.env = pure false := by rfl) : JS X W (.Assign [.Name x pos'] e pos) (sAsg te (.nm j)) := by
  have hl := c.sC.loc j hx x hi
  have hl2 : X.env.scope.names.lookup x = some .local := by rw [c.ss]; exact hl
  refine ⟨PS.imp (ps_set (i := j) (by rw [c.nn]; exact c.nd) (by rw [c.nn]; exact hi) (.inl hl2) he.pe hs (.inr hl2)) fun N σ H h => ?_, moAsg he.mo⟩
  obtain ⟨Z, env, S, re, rs, q⟩ := h
  refine LE.of he.mo re rs q (fun d S1 v H1 q1 a1 r1 => ?_) fun x S1 c dx H1 q1 a1 r1 => exS re rs q1 a1 r1
  unfold asgT at q1
  exact q1 _ H1 a1 ((re.step a1.st rs).set r1 j)
end
/-! ### isinstance of the one that is held -/
/-- a class by its name -/
def JCl (K : PySem.W.Frag) (mg : Str → Option Value) (x : Str) (u : Value) : Prop := (∃ C, mg x = some (.ref C) ∧ u = .ref C) ∨ (mg x = none ∧ ∃ T, bootBuiltins x = some (.type T) ∧ u = .type T)
def vOfU : Value → V
  | .ref C => .ref C
  | .type T => .ty T
  | _ => .non
section
variable {K : PySem.W.Frag} {mg : Str → Option Value} {N : List Str} {sc : Scope} {vw : Vw} {X : Cx} {W : WX}
theorem pe_cl (c : JC0 K mg N sc vw X) {x : Str} {u : Value} {pos : Pos} (hx : x ∈ vw.gs) (h : JCl K mg x u) : PE X (.Name x pos) (tC (vOfU u)) := by
  rcases h with ⟨C, h, rfl⟩ | ⟨h, T, hT, rfl⟩
  · exact pe_glob (c.gl hx) (by rw [c.gg]; exact h) rfl (c.sC.gl x hx).2.2
  · exact pe_bltn (v := .ty T) (c.gl hx) (by rw [c.gg]; exact h) hT rfl (c.sC.gl x hx).2.1 (c.sC.gl x hx).2.2
theorem relU {K : PySem.W.Frag} {mg : Str → Option Value} {x : Str} {u w : Value} (h : JCl K mg x u) (r : RelV (vOfU u) w) : w = u := by
  rcases h with ⟨C, _, rfl⟩ | ⟨_, T, _, rfl⟩
  · exact r
  · exact r
/-- isinstance(e, C): e, in slot i, the one that is held -/
def dIsE (i : Nat) (a : Addr) (b : Option Bool) : TEd := fun env S Q _ => env[i]? = some (some (.obj a)) ∧ match b with
  | some b => Q (.bl b) S
  | none => False
theorem moIsE {i : Nat} {a : Addr} {b : Option Bool} : MoE (dIsE i a b) := fun env S Q Q' E E' hq he q => ⟨q.1, by
  have q2 := q.2
  split at q2 <;> first | exact hq _ _ q2 | exact q2⟩
/-- the suite's context: a of the class D -/
structure JX (K : PySem.W.Frag) (mg : Str → Option Value) (N : List Str) (sc : Scope) (vw : Vw) (a Dc : Addr) (X : Cx) : Prop extends JC0 K mg N sc vw X where
  xc : ∃ (X0 : Cx) (oe : Obj) (pn : List (Addr × Obj)), X = X0.suite a ((a, oe) :: pn) ∧ Zc (.ref Dc) none oe ∧ ∃ vs, oe.data = .fields vs
theorem je_isE {a Dc : Addr} (c : JX K mg N sc vw a Dc X) (i : Nat) {x y : Str} {p q r pos : Pos} {u : Value} {b : Option Bool} (C : ExcC K Dc) (hi : i ∈ vw.vl) (hN : N[i]? = some x) (hs : ("isinstance" : Str) ∈ vw.gs) (hm : mg "isinstance" = none) (hy : y ∈ vw.gs) (hu : JCl K mg y u)
    (hb : ∀ b', b = some b' → PySem.W.kitOne K (.ref Dc) u = some b') (he : starEach [.Name x p, .Name y q] X.env = (false, eval (.Name x p) X.env) :: starEach [.Name y q] X.env := by rfl) : JE X W (.Call (.Name "isinstance" r) [.Name x p, .Name y q] [] pos) (dIsE i a b) := by
  obtain ⟨X0, oe, pn, ex, hz, hf⟩ := c.xc
  obtain ⟨v1, v2, v3⟩ := c.sC.vis i hi x hN
  have CC : ExcC X.K Dc := by rw [c.kk]; exact C
  have cr : CallR X (.builtin "isinstance") (rIsE X.K Dc a) := by
    subst ex
    exact call_isE CC hz hf
  refine ⟨PE.imp (pe_callB cr (c.gl hs) (by rw [c.gg]; exact hm) (by decide +kernel) (pa_cons (pe_var (i := i) (by rw [c.nn]; exact hN) (by rw [c.ss]; exact v1) v2 v3) (pa_cons (pe_cl c.toJC0 hy hu) pa_nil) he) (c.sC.gl _ hs).2.1 (c.sC.gl _ hs).2.2 he) fun σ H Q h => ?_, moIsE⟩
  obtain ⟨Z, env, S, re, rs, e1, q1⟩ := h
  split at q1 <;> first | exact q1.elim | skip
  rename_i b'
  obtain ⟨v, e2, r2⟩ := re.at_ i _ e1
  cases r2
  exact ⟨_, e2, _, u, b', rfl, fun w hw => relU hu hw, by rw [c.kk]; exact hb b' rfl, q1 _ H (.refl rs) (.bl _)⟩
/-- isinstance(e, (C, ..)) -/
def rIsT (K : PySem.W.Frag) (D a : Addr) : List V → Hp → VK → Prop := fun xs H Q => ∃ (tp : Addr) (vs : List V) (cvs : List Value) (b : Bool), xs = [.ref a, .ref tp] ∧ H tp = some (.tup vs) ∧ (∀ us, Vals vs us → us = cvs) ∧ PySem.W.kitAny K (.ref D) cvs = some b ∧ Q (.bl b) H
theorem call_isT {X : Cx} {a Dc : Addr} {oe : Obj} {pn : List (Addr × Obj)} (C : ExcC X.K Dc) (hz : Zc (.ref Dc) none oe) (hf : ∃ vs, oe.data = .fields vs) : CallR (X.suite a ((a, oe) :: pn)) (.builtin "isinstance") (rIsT X.K Dc a) := by
  intro pins s σ H xs us Q I r h
  obtain ⟨tp, vs, cvs, b, rfl, htp, hcv, e, q⟩ := h
  cases r with
  | cons rx rr =>
    cases rr with
    | cons rt rr =>
      cases rr
      cases rx
      cases rt
      obtain ⟨hget, _⟩ := I.pin (a, oe) (List.mem_append.mpr (.inl List.mem_cons_self))
      obtain ⟨fs, hv⟩ := hf
      have J : PySem.W.InstAt s.heap a oe Dc none := by
        obtain ⟨oc, od, oda, osl⟩ := oe
        obtain ⟨h1, h2⟩ := hz
        dsimp only at h1 h2 hv
        subst h1 h2 hv
        exact ⟨hget, rfl, rfl, trivial⟩
      obtain ⟨_, its, rits, hg⟩ := I.hok tp _ htp
      obtain ⟨o, g1, g2, n, g3⟩ := hg
      obtain ⟨oc, od, odt, osl⟩ := o
      dsimp only at g2 g3
      subst g2 g3
      have ei := hcv _ rits
      subst ei
      exact PySem.W.kia_tup (PySem.W.handS_kitx_exc C.hg C.hk C.hs C.hd C.ha C.hn C.ht C.hm) I.kIn J g1 e (fun z => nomatch z) fun tk => ⟨.bl b, H, I.kept (t' := tk) fun _ _ z => z, rfl, q⟩
/-- the classes by their names, as arguments -/
structure PCls (X : Cx) (es : List Expr) (us : List Value) : Prop where
  pa : ∃ ta, PA X es ta ∧ (∀ σ H (Q : List V → Hp → Prop), Q (us.map vOfU) H → ta σ H Q)
  rel : ∀ ws, Vals (us.map vOfU) ws → ws = us
theorem pcls_nil {X : Cx} : PCls X [] [] := ⟨⟨_, pa_nil, fun σ H Q q => q⟩, fun ws r => by cases r; rfl⟩
theorem pcls_cons (c : JC0 K mg N sc vw X) {x : Str} {u : Value} {p : Pos} {es : List Expr} {us : List Value} (hx : x ∈ vw.gs) (h : JCl K mg x u) (r : PCls X es us) (he : starEach (.Name x p :: es) X.env = (false, eval (.Name x p) X.env) :: starEach es X.env := by rfl) : PCls X (.Name x p :: es) (u :: us) := by
  obtain ⟨ta, h1, h2⟩ := r.pa
  refine ⟨⟨_, pa_cons (pe_cl c hx h) h1 he, fun σ H Q q => h2 σ H _ q⟩, fun ws rw => ?_⟩
  cases rw with
  | cons r1 r2 => rw [relU h r1, r.rel _ r2]
theorem je_isT {a Dc : Addr} (c : JX K mg N sc vw a Dc X) (i : Nat) {x : Str} {p r tp pos : Pos} {es : List Expr} {n : Nat} {us : List Value} {b : Option Bool} (C : ExcC K Dc) (hi : i ∈ vw.vl) (hN : N[i]? = some x) (hs : ("isinstance" : Str) ∈ vw.gs) (hm : mg "isinstance" = none) (pc : PCls X es us) (hl : us.length ≤ 1000)
    (hb : ∀ b', b = some b' → PySem.W.kitAny K (.ref Dc) us = some b') (he : starEach [.Name x p, .Tuple es n tp] X.env = (false, eval (.Name x p) X.env) :: starEach [.Tuple es n tp] X.env := by rfl) (he2 : starEach [.Tuple es n tp] X.env = (false, eval (.Tuple es n tp) X.env) :: starEach [] X.env := by rfl) : JE X W (.Call (.Name "isinstance" r) [.Name x p, .Tuple es n tp] [] pos) (dIsE i a b) := by
  obtain ⟨X0, oe, pn, ex, hz, hf⟩ := c.xc
  obtain ⟨v1, v2, v3⟩ := c.sC.vis i hi x hN
  obtain ⟨ta, p1, p2⟩ := pc.pa
  have CC : ExcC X.K Dc := by rw [c.kk]; exact C
  have cr : CallR X (.builtin "isinstance") (rIsT X.K Dc a) := by
    subst ex
    exact call_isT CC hz hf
  refine ⟨PE.imp (pe_callB cr (c.gl hs) (by rw [c.gg]; exact hm) (by decide +kernel) (pa_cons (pe_var (i := i) (by rw [c.nn]; exact hN) (by rw [c.ss]; exact v1) v2 v3) (pa_cons (pe_tup p1) pa_nil he2) he) (c.sC.gl _ hs).2.1 (c.sC.gl _ hs).2.2 he) fun σ H Q h => ?_, moIsE⟩
  obtain ⟨Z, env, S, re, rs, e1, q1⟩ := h
  split at q1 <;> first | exact q1.elim | skip
  rename_i b'
  obtain ⟨v, e2, r2⟩ := re.at_ i _ e1
  cases r2
  refine ⟨_, e2, p2 σ H _ ⟨by rw [List.length_map]; exact Nat.le_of_lt (small1000 hl), fun q hq => ?_⟩⟩
  exact ⟨q, _, us, b', rfl, upd_same, pc.rel, by rw [c.kk]; exact hb b' rfl, q1 _ _ (rs.newN (o := .tup (us.map vOfU)) hq) (.bl _)⟩
end

/-! ### try, except C as n -/
def ndS (i : Nat) (N : Nd) : Nd := ⟨fun e s => N.nx (e.set i none) s, N.rt, fun e s => N.bk (e.set i none) s, fun e s => N.ct (e.set i none) s, fun _ _ _ => False⟩
/-- sb: of each class that may fly, whether the clause takes it -/
def ndT (sb : Str → Option Bool) (i : Nat) (u : Addr → Str → TSd) (N : Nd) : Nd := ⟨N.nx, N.rt, N.bk, N.ct, fun x e S1 => match sb x.nm with
  | some true => x.fs = [] ∧ ∀ a, u a x.nm (e.set i (some (.obj a))) S1 (ndS i N)
  | some false => N.ex x e S1
  | none => False⟩
def sTryAs (t : TSd) (sb : Str → Option Bool) (i : Nat) (u : Addr → Str → TSd) : TSd := fun env S N => t env S (ndT sb i u N)
theorem moTryAs {t : TSd} {sb : Str → Option Bool} {i : Nat} {u : Addr → Str → TSd} (ht : MoS t) (hu : ∀ a nm, MoS (u a nm)) : MoS (sTryAs t sb i u) := fun env S A B l h => ht _ _ (ndT sb i u A) (ndT sb i u B) ⟨l.nx, l.rt, l.bk, l.ct, fun x e S1 q => by
  unfold ndT at q ⊢
  dsimp only at q ⊢
  split at q
  · exact ⟨q.1, fun a => hu _ _ _ _ (ndS i A) _ ⟨fun _ _ z => l.nx _ _ z, l.rt, fun _ _ z => l.bk _ _ z, fun _ _ z => l.ct _ _ z, fun _ _ _ z => z⟩ (q.2 a)⟩
  · exact l.ex _ _ _ q
  · exact q⟩ h
section
variable {P : Program} {w : World} {K : PySem.W.Frag} {mg : Str → Option Value} {base : Heap} {N : List Str} {sc : Scope} {vw : Vw} {k : Nat} {X : Cx} {W : WX}
theorem js_try_as {body suite : List Stmt} {b₀ : Stmt} {t : TSd} {sb : Str → Option Bool} {u : Addr → Str → TSd} {x n : Str} {C : Addr} {np pos pos' : Pos} (d : JD P w K mg base N sc vw k X W) (i : Nat) (hi : N[i]? = some n) (hl : i ∈ vw.lo) (hx : x ∈ vw.gs) (hm : mg x = some (.ref C))
    (hsb : ∀ nm b Cn, sb nm = some b → PySem.W.nsIn K mainGlobals nm = some (some (.ref Cn)) → PySem.W.exmOne K (.ref Cn) (.ref C) = some b)
    (hb : ∀ X2 W2, JD P w K mg base N sc vw k X2 W2 → JB X2 W2 body t) (mu : ∀ a nm, MoS (u a nm))
    (hsu : ∀ X2 a Dc nm, sb nm = some true → PySem.W.nsIn K mainGlobals nm = some (some (.ref Dc)) → JX K mg N sc vw a Dc X2 → JB X2 W0 (b₀ :: suite) (u a nm)) :
    JS X W (.Try body [.ExceptHandler (some (.Name x np)) (some n) (b₀ :: suite) pos'] [] [] pos) (sTryAs t sb i u) := by
  have hln : X.env.kindOf n = some .local := by
    show X.env.scope.names.lookup n = _
    rw [d.ss]
    exact d.sC.loc i hl n hi
  have nms : Names X x (.ref C) := ⟨d.toJC.gl hx, (d.sC.gl x hx).2.2, .inl (by rw [d.gg]; exact hm)⟩
  have jd : ∀ (W2 : WX) (pn : List (Addr × Obj)) (xe : Value → Shared → Prop), Takes (X.tr pn xe) W2 → PassesOwn (model X.prog X.w) X.A X.env xe → JD P w K mg base N sc vw k (X.tr pn xe) W2 := fun W2 pn xe tk po =>
    { prog := d.prog, ww := d.ww, kk := d.kk, gg := d.gg, bb := d.bb, nn := d.nn, ss := d.ss, sC := d.sC, nd := d.nd, calm := d.calm, room := d.room, tk := tk, kd := d.kd, po := po, fn := d.fn, hs := d.hs, hf := d.hf }
  have mt : MoS t := (hb _ _ d).mo
  have hps := ps_try_as (X := X) (x := x) (n := n) (c := .ref C) (i := i) (body := body) (suite := suite) (b₀ := b₀) (np := np) (pos := pos) (pos' := pos') (Wout := W) (tb := fun W2 => LS X.K W2 t)
    (ts := fun a cls dx M σ H => ∃ nm Dc, sb nm = some true ∧ PySem.W.nsIn X.K mainGlobals nm = some (some (.ref Dc)) ∧ cls = .ref Dc ∧ dx = none ∧ LS X.K W0 (u a nm) M σ H) d.hs d.hf (by rw [d.nn]; exact d.nd) (by rw [d.nn]; exact hi) hln nms d.tk (fun W2 pn xe tk po => (hb _ _ (jd W2 pn xe tk po)).ps) fun a oe cls dx pn hz hf => ?_
  · refine ⟨PS.imp hps fun M σ H h => ?_, moTryAs mt mu⟩
    obtain ⟨Z, env, S, re, rs, q⟩ := h
    refine ⟨Z, env, S, re, rs, mt _ _ (ndT sb i u (LN ⟨X.K, Z⟩ S H W M)) _ ⟨fun _ _ z => z, fun _ _ z => z, fun _ _ z => z, fun _ _ z => z, fun xc e S1 qx c dx σ1 H1 a1 re1 rx => ?_⟩ q⟩
    unfold ndT at qx
    dsimp only at qx
    obtain ⟨⟨Cn, hn, rfl⟩, hd⟩ := rx
    split at qx
    · rename_i hs1
      have hn' : PySem.W.nsIn K mainGlobals xc.nm = some (some (.ref Cn)) := by have z := hn; rw [← d.kk]; exact z
      refine ⟨true, by rw [d.kk]; exact hsb _ _ _ hs1 hn', fun _ a na => ?_, fun z => absurd z (by decide)⟩
      have dn : dx = none := by
        cases dx with
        | none => rfl
        | some _ => exact absurd qx.1 hd.1
      refine ⟨xc.nm, Cn, hs1, hn, rfl, dn, Z, _, S1, re1.set (.obj a) i, a1.rs, mu _ _ _ _ (ndS i (LN ⟨X.K, Z⟩ S H W M)) _ ⟨fun e' s z σ' H' a2 r2 => z _ H' (a1.trans a2) (r2.unset i), fun d' s z v H' a2 r2 => z v H' (a1.trans a2) r2, fun e' s z σ' H' a2 r2 => z _ H' (a1.trans a2) (r2.unset i), fun e' s z σ' H' a2 r2 => z _ H' (a1.trans a2) (r2.unset i), fun _ _ _ z => z.elim⟩ (qx.2 a)⟩
    · rename_i hs1
      have hn' : PySem.W.nsIn K mainGlobals xc.nm = some (some (.ref Cn)) := by have z := hn; rw [← d.kk]; exact z
      exact ⟨false, by rw [d.kk]; exact hsb _ _ _ hs1 hn', fun z => absurd z (by decide), fun _ => qx _ dx σ1 H1 a1 re1 ⟨⟨Cn, hn, rfl⟩, hd⟩⟩
    · exact qx.elim
  · refine ⟨fun pins s σ H M I hh => ?_⟩
    obtain ⟨nm, Dc, h1, h2, rfl, rfl, q⟩ := hh
    have h2' : PySem.W.nsIn K mainGlobals nm = some (some (.ref Dc)) := by rw [← d.kk]; exact h2
    exact (hsu (X.suite a ((a, oe) :: pn)) a Dc nm h1 h2' { kk := d.kk, gg := d.gg, nn := d.nn, ss := d.ss, sC := d.sC, nd := d.nd, xc := ⟨X, oe, pn, rfl, hz, hf⟩ }).ps.run pins s σ H M I q
end

/-! ### what the head tells of exceptions -/
def excCB (K : PySem.W.Frag) (D : Addr) : Bool := He.eqO (PySem.W.findIn K (.ref D) "__getattribute__") (some (some (.builtin "BaseException.__getattribute__"))) && (He.eqO (PySem.W.findIn K (.ref D) "__getattr__") (some none) && (decide (PySem.W.subIn K (.ref D) (.type "BaseException") = some true) && (PySem.W.hasDictIn K D && (He.eqO (PySem.W.findIn K (.ref D) "__class__") (some (some (.builtin "object.__class__"))) &&
  (He.eqO (PySem.W.specialIn K (.builtin "object.__class__") "__get__") (some (some (.builtin "getset_descriptor.__get__"))) && (decide (PySem.W.takesIn K (.builtin "object.__class__") = some true) && decide (PySem.W.mroIn K D (.type "object") = some true)))))))
theorem excC_ok {K : PySem.W.Frag} {D : Addr} (h : excCB K D = true) : ExcC K D := by
  obtain ⟨h1, h⟩ := He.ba h
  obtain ⟨h2, h⟩ := He.ba h
  obtain ⟨h3, h⟩ := He.ba h
  obtain ⟨h4, h⟩ := He.ba h
  obtain ⟨h5, h⟩ := He.ba h
  obtain ⟨h6, h⟩ := He.ba h
  obtain ⟨h7, h8⟩ := He.ba h
  exact ⟨He.eqO_ok h1, He.eqO_ok h2, of_decide_eq_true h3, h4, He.eqO_ok h5, He.eqO_ok h6, of_decide_eq_true h7, of_decide_eq_true h8⟩
/-- a class's value by its name -/
def clU (K : PySem.W.Frag) (x : Str) : Value := match PySem.W.nsIn K mainGlobals x with
  | some (some (.ref C)) => .ref C
  | _ => match bootBuiltins x with
    | some (.type T) => .type T
    | _ => .none
theorem clU_own {K : PySem.W.Frag} {mg : Str → Option Value} {x : Str} (c : (He.Fa.glo x).ok K = true) (hm : mg x = some (.ref (He.ga K x))) : JCl K mg x (clU K x) := by
  have e : PySem.W.nsIn K mainGlobals x = some (some (.ref (He.ga K x))) := He.eqO_ok c
  refine .inl ⟨_, hm, ?_⟩
  unfold clU
  rw [e]
theorem clU_blt {K : PySem.W.Frag} {mg : Str → Option Value} {x : Str} {T : String} (c : (He.Fa.free x).ok K = true) (hm : mg x = none) (hb : bootBuiltins x = some (.type T)) : JCl K mg x (clU K x) := by
  have e : PySem.W.nsIn K mainGlobals x = some none := He.eqO_ok c
  refine .inr ⟨hm, T, hb, ?_⟩
  unfold clU
  rw [e, hb]
def kitB (K : PySem.W.Frag) (D : Str) (xs : List Str) (b : Bool) : Bool := decide (PySem.W.kitAny K (.ref (He.ga K D)) (xs.map (clU K)) = some b)
def kit1B (K : PySem.W.Frag) (D x : Str) (b : Bool) : Bool := decide (PySem.W.kitOne K (.ref (He.ga K D)) (clU K x) = some b)
theorem ga_eq {K : PySem.W.Frag} {x : Str} {D : Addr} (h : PySem.W.nsIn K mainGlobals x = some (some (.ref D))) : He.ga K x = D := by
  unfold He.ga
  rw [h]

/-! ### keyword-only defaults that fill up -/
section
variable {P : Program} {w : World} {K : PySem.W.Frag} {mg : Str → Option Value} {base : Heap} {N ps : List Str} {vw : Vw} {k : Nat}
end

section
variable {P : Program} {w : World} {K : PySem.W.Frag} {mg : Str → Option Value} {base : Heap} {N : List Str} {sc : Scope} {vw : Vw} {k : Nat} {X : Cx} {W : WX}
end
theorem all_at {l : List (PySem.W.Frag → Bool)} {K : PySem.W.Frag} (h : (l.all fun f => f K) = true) (i : Nat) {f : PySem.W.Frag → Bool} (e : l[i]? = some f) : f K = true := List.all_eq_true.mp h f (List.mem_of_getElem? e)
/-- one class alone may fly -/
def sbOne (x : Str) : Str → Option Bool := fun nm => if nm = x then some true else none
theorem sbOne_eq {x nm : Str} {b : Bool} (h : sbOne x nm = some b) : nm = x ∧ b = true := by
  unfold sbOne at h
  split at h
  · exact ⟨by assumption, (Option.some.inj h).symm⟩
  · cases h
end Bl

/-! a, *b, c = xs -/
namespace Bl
open PySem PySem.Spec PyProof.Rows L2
section
variable {prog : Program} {w : World} {A : Around} {E : Value → Shared → Prop} {s : Shared}
end
/-- the items as they are stored: i ahead, those between as a list, aft behind -/
def starD (i aft : Nat) (ds : List D) : List D := ds.take i ++ [.lst ((ds.drop i).take (ds.length - i - aft))] ++ (ds.drop i).drop (ds.length - i - aft)
section
variable {X : Cx} {W : WX}
end
/-- a, *b, c = x -/
def starK (i aft : Nat) (gs : List Tg) (d : D) (env : Ev) (S : Sto) (nx : Ev → Sto → Prop) : Prop := match itemsOf S d with
  | some ds => i + aft ≤ ds.length ∧ match asgL S gs (starD i aft ds) env with
    | some e => nx e S
    | none => False
  | none => False
def sStar (te : TEd) (i aft : Nat) (gs : List Tg) : TSd := fun env S N => te env S (fun d S1 => starK i aft gs d env S1 N.nx) fun x S1 => N.ex x env S1
end Bl

/-! enumerate, zip, reversed over lists and tuples -/
namespace Bl
open PySem PySem.Spec PyProof.Rows L2
section
variable {prog : Program} {w : World} {A : Around} {E : Value → Shared → Prop} {s : Shared}
end
/-! ### the same over data -/
def enumD (ds : List D) : List D := (List.range ds.length).zipWith (fun (i : Nat) d => D.tup [.int i, d]) ds
def zipD (xs ys : List D) : List D := xs.zipWith (fun x y => D.tup [x, y]) ys
def seqD : D → Option (List D)
  | .tup ds => some ds
  | .lst ds => some ds
  | _ => none
def iEnumD (t : TEd) : TAd := fun env S Q E => t env S (fun d S1 => match seqD d with | some ds => Q (enumD ds) S1 | none => False) E
def iRevD (t : TEd) : TAd := fun env S Q E => t env S (fun d S1 => match seqD d with | some ds => Q ds.reverse S1 | none => False) E
def zipK (x y : D) (S : Sto) (Q : List D → Sto → Prop) : Prop := match x, y with
  | .tup xs, .tup ys => Q (zipD xs ys) S
  | .lst xs, .lst ys => Q (zipD xs ys) S
  | _, _ => False
def iZipD (t u : TEd) : TAd := fun env S Q E => t env S (fun x S1 => u env S1 (fun y S2 => zipK x y S2 Q) E) E
theorem moEnumD {t : TEd} (ht : MoE t) : MoE (iEnumD t) := fun env S Q Q' E E' h he q => ht _ _ _ _ _ _ (fun d S1 q1 => by
  split at q1 <;> first | exact h _ _ q1 | exact q1.elim) he q
theorem moRevD {t : TEd} (ht : MoE t) : MoE (iRevD t) := fun env S Q Q' E E' h he q => ht _ _ _ _ _ _ (fun d S1 q1 => by
  split at q1 <;> first | exact h _ _ q1 | exact q1.elim) he q
theorem moZipD {t u : TEd} (ht : MoE t) (hu : MoE u) : MoE (iZipD t u) := fun env S Q Q' E E' h he q => ht _ _ _ _ _ _ (fun x S1 q1 => hu _ _ _ _ _ _ (fun y S2 q2 => by
  unfold zipK at q2 ⊢
  split at q2 <;> first | exact h _ _ q2 | exact q2.elim) he q1) he q
section
variable {P : Program} {w : World} {K : PySem.W.Frag} {mg : Str → Option Value} {base : Heap} {N : List Str} {sc : Scope} {vw : Vw} {k : Nat} {X : Cx} {W : WX}
end
end Bl

/-! {"..": x, ..}.get(k, y) -/
namespace Bl
open PySem PySem.Spec PyProof.Rows L2
section
variable {K : Kz} {S : Sto} {H : Hp} {p : Addr} {ks ls : List (Key × V)}
mutual
theorem Rp.dk (hp : H p = some (.dK ks)) : ∀ (d : D) (v : V), Rp K S H d v → Rp K S (upd H p (.dK ls)) d v
  | .non, _, h => by cases h; exact .non
  | .bl b, _, h => by cases h; exact .bl b
  | .int i, _, h => by cases h; exact .int i
  | .str x, _, h => by cases h; exact .str x
  | .tup ds, _, h => by
    cases h with
    | tup hs ha =>
      refine .tup ?_ (RpL.dk hp ds _ ha)
      rcases hs with (h | ⟨o, h⟩) | h
      · exact .inl (.inl (by rw [upd_ne (ne_of h hp (by intro z; cases z))]; exact h))
      · exact .inl (.inr ⟨o, by rw [upd_ne (ne_of h hp (by intro z; cases z))]; exact h⟩)
      · exact .inr h
  | .lst ds, _, h => by
    cases h with
    | lst hs hn hz ha =>
      refine .lst ?_ hn hz (RpL.dk hp ds _ ha)
      rcases hs with h | ⟨o, h⟩
      · exact .inl (by rw [upd_ne (ne_of h hp (by intro z; cases z))]; exact h)
      · exact .inr ⟨o, by rw [upd_ne (ne_of h hp (by intro z; cases z))]; exact h⟩
    | lstK hs ha => exact .lstK hs (RpL.dk hp ds _ ha)
  | .ref a, _, h => by cases h; exact .ref a
  | .obj a, _, h => by cases h; exact .obj a
theorem RpL.dk (hp : H p = some (.dK ks)) : ∀ (ds : List D) (vs : List V), RpL K S H ds vs → RpL K S (upd H p (.dK ls)) ds vs
  | [], _, h => by cases h; exact .nil
  | d :: ds, _, h => by
    cases h with
    | cons h1 h2 => exact .cons (Rp.dk hp d _ h1) (RpL.dk hp ds _ h2)
end
theorem RS.dk (hp : H p = some (.dK ks)) (rs : RS K S H) : RS K S (upd H p (.dK ls)) := by
  refine ⟨fun a ds e => ?_, fun b hb => ?_⟩
  · obtain ⟨vs, q, r⟩ := rs.at_ a ds e
    exact ⟨vs, by rw [upd_ne (ne_of q hp (by intro z; cases z))]; exact q, RpL.dk hp _ _ r⟩
  · obtain ⟨n, vs, q⟩ := rs.hid b hb
    exact ⟨n, vs, by rw [upd_ne (ne_of q hp (by intro z; cases z))]; exact q⟩
end
/-- a display with texts as keys: the values -/
def lookD : List Str → List D → Str → Option D
  | k :: ks, d :: ds, x => if x = k then some d else lookD ks ds x
  | _, _, _ => none
def dGetL (ks : List Str) (ta : TAd) (ty tx : TEd) : TEd := fun env S Q E => ta env S (fun ds S1 => ds.length = ks.length ∧ ty env S1 (fun y S2 => tx env S2 (fun z S3 => match y with
  | .str x => Q ((lookD ks ds x).getD z) S3
  | _ => False) E) E) E
theorem moGetL {ks : List Str} {ta : TAd} {ty tx : TEd} (h1 : MoE ta) (h2 : MoE ty) (h3 : MoE tx) : MoE (dGetL ks ta ty tx) := fun env S Q Q' E E' h he q => h1 _ _ _ _ _ _ (fun ds S1 q1 => ⟨q1.1, h2 _ _ _ _ _ _ (fun y S2 q2 => h3 _ _ _ _ _ _ (fun z S3 q3 => by
  cases y <;> first | exact h _ _ q3 | exact q3) he q2) he q1.2⟩) he q
/-- the pairs of a display: constant keys, values -/
structure PDs (X : Cx) (W : WX) (pos : Pos) (keys : List (Option Expr)) (values : List Expr) (ks : List Str) (ta : TAd) : Prop where
  pp : ∃ trs, PPs X pos keys values trs ∧ ∀ Z env S σ H (Q : List (V × V) → Hp → Prop), RE ⟨X.K, Z⟩ S H env σ → RS ⟨X.K, Z⟩ S H → ta env S (fun ds S' => ∀ vs H', Aft ⟨X.K, Z⟩ S H S' H' → RpL ⟨X.K, Z⟩ S' H' ds vs → vs.length = ks.length ∧ Q ((ks.zip vs).map fun q => (V.str q.1, q.2)) H') (PX ⟨X.K, Z⟩ S H σ W) → tPairs trs σ H Q
  mo : MoE ta
end Bl

/-! raise X(..) from e, e the one that is handled -/
namespace Bl
open PySem PySem.Spec PyProof.Rows L2 HotX
/-- field 3 is c, field 4 is True -/
def causeFrom (h : Heap) (a : Addr) (c : Value) : Heap := (h.update a (Obj.mapFields (·.setIfInBounds 3 c))).update a (Obj.mapFields (·.setIfInBounds 4 (.bool true)))
theorem causeFrom_at {h : Heap} {a : Addr} {c : Value} {oe : Obj} {vs : Array Value} (ha : h.get? a = some oe) (hd : oe.data = .fields vs) :
    (causeFrom h a c).get? a = some ((oe.mapFields (·.setIfInBounds 3 c)).mapFields (·.setIfInBounds 4 (.bool true))) ∧ ((oe.mapFields (·.setIfInBounds 3 c)).mapFields (·.setIfInBounds 4 (.bool true))).data = .fields ((vs.setIfInBounds 3 c).setIfInBounds 4 (.bool true)) := by
  have hd3 := Obj.data_mapFields hd (·.setIfInBounds 3 c)
  have ha3 := Heap.get?_update_self (Obj.mapFields (·.setIfInBounds 3 c)) ha (Obj.isFreed_of_fields hd3)
  have hd4 := Obj.data_mapFields hd3 (·.setIfInBounds 4 (.bool true))
  exact ⟨Heap.get?_update_self (Obj.mapFields (·.setIfInBounds 4 (.bool true))) ha3 (Obj.isFreed_of_fields hd4), hd4⟩
theorem causeFrom_other {h : Heap} {a b : Addr} {c : Value} (hne : a ≠ b) : (causeFrom h a c).get? b = h.get? b := by
  unfold causeFrom
  rw [Heap.get?_update_other _ _ hne, Heap.get?_update_other _ _ hne]
theorem raise_made_hotC {prog : Program} {w : World} {A : Around} {E : Value → Shared → Prop} {env : Env} {s : Shared} {x c : Sem Value} {Q : Flow → Shared → Prop} {x1 : Addr}
    (h : wpAny (model prog w) A x (fun v s₁ => ∃ a oe vs cls o1 v1 cls1, v = .ref a ∧ s₁.heap.get? a = some oe ∧ oe.cls = cls ∧ oe.data = .fields vs ∧ vs[1]? = some .none ∧ 4 < vs.size ∧ x1 ≠ a ∧ HotAt A x1 s₁.heap ∧
      (∀ Q' : Value → Shared → Prop, (∀ tk, Q' (.ref x1) { s₁ with toks := tk }) → wpAny (model prog w) A c Q' E s₁) ∧
      s₁.heap.get? x1 = some o1 ∧ o1.cls = cls1 ∧ o1.data = .fields v1 ∧ PySem.W.Looks (model prog w) s₁.heap (isSubtype cls1 (.type "BaseException")) true ∧
      PySem.W.Looks (model prog w) s₁.heap (isSubtype cls (.type "BaseException")) true ∧ PySem.W.Looks (model prog w) (causeFrom s₁.heap a (.ref x1)) (typeOf cls) (.type "type") ∧
      ∀ tk, E (.ref a) { s₁ with heap := (causeFrom s₁.heap a (.ref x1)).update a (Obj.mapFields (·.setIfInBounds 2 (.ref x1))), toks := tk }) E s) :
    wpAny (model prog w) A (raiseStmt env (some x) (some c)) Q E s := by
  unfold raiseStmt
  dsimp only
  refine wpAny_bind (wpAny_mono h (fun v s₁ h₁ => ?_) fun _ _ x => x)
  obtain ⟨a, oe, vs, cls, o1, v1, cls1, rfl, ha, hcls, hd, h1, hi, hne, hot, hcs, g1, gc1, gd1, L0, L1, L3, hE⟩ := h₁
  refine wpAny_bind (wpAny_holding (hcs _ fun tk => ?_))
  refine wpAny_bind (wpAny_pure ?_)
  have LT : PySem.W.Looks (model prog w) s₁.heap (typeOf (.ref a)) cls := fun A Q E s k q => wpAny_typeOf_ref (k _ _ ha) (by rw [hcls]; exact q)
  have LI : PySem.W.Looks (model prog w) s₁.heap (isInstance (.ref a) (.type "BaseException")) true := LT.andThen L1
  have LT1 : PySem.W.Looks (model prog w) s₁.heap (typeOf (.ref x1)) cls1 := fun A Q E s k q => wpAny_typeOf_ref (k _ _ g1) (by rw [gc1]; exact q)
  have LI1 : PySem.W.Looks (model prog w) s₁.heap (isInstance (.ref x1) (.type "BaseException")) true := LT1.andThen L0
  have hnt : ∀ {b : Addr} {ob : Obj} {ws : Array Value} {Q' : Bool → Shared → Prop}, s₁.heap.get? b = some ob → ob.data = .fields ws → Q' false { s₁ with toks := tk } → wpAny (model prog w) A (isType (.ref b)) Q' E { s₁ with toks := tk } := by
    intro b ob ws Q' hb hbd hq
    simp only [isType, loadHead]
    refine wpAny_bind (wpAny_loadPart (s := { s₁ with toks := tk }) hb ?_)
    rw [hbd]; exact wpAny_pure hq
  have hd3 := Obj.data_mapFields hd (·.setIfInBounds 3 (.ref x1))
  have ha3 := Heap.get?_update_self (Obj.mapFields (·.setIfInBounds 3 (.ref x1))) ha (Obj.isFreed_of_fields hd3)
  obtain ⟨ha4, hd4⟩ := causeFrom_at (c := .ref x1) ha hd
  have s3 : 3 < vs.size := by omega
  have s4 : 4 < (vs.setIfInBounds 3 (Value.ref x1)).size := by rw [set_size]; exact hi
  have s2 : 2 < ((vs.setIfInBounds 3 (Value.ref x1)).setIfInBounds 4 (Value.bool true)).size := by rw [set_size, set_size]; omega
  have h14 : ((vs.setIfInBounds 3 (Value.ref x1)).setIfInBounds 4 (Value.bool true))[1]? = some Value.none := set_other (by decide) (set_other (by decide) h1)
  have hcls4 : ((oe.mapFields (·.setIfInBounds 3 (.ref x1))).mapFields (·.setIfInBounds 4 (.bool true))).cls = cls := by rw [Obj.cls_mapFields, Obj.cls_mapFields]; exact hcls
  have LT4 : PySem.W.Looks (model prog w) (causeFrom s₁.heap a (.ref x1)) (typeOf (.ref a)) cls := fun A Q E s k q => wpAny_typeOf_ref (k _ _ ha4) (by rw [hcls4]; exact q)
  have hot4 : HotAt A x1 (causeFrom s₁.heap a (.ref x1)) := by
    obtain ⟨q1, o, vs', q2, q3, q4⟩ := hot
    exact ⟨q1, o, vs', by rw [causeFrom_other (Ne.symm hne)]; exact q2, q3, q4⟩
  have rest : wpAny (model prog w) A (do
      let b ← isType (.ref a)
      if b = true then do
        let e ← holding [.ref a] (raisedFor (.ref a) (.ref a))
        setFlight e none
        raiseNew e
      else do
        let e ← raisedInstance (.ref a)
        setFlight e none
        raiseNew e : Sem Flow) Q E { s₁ with heap := causeFrom s₁.heap a (.ref x1), toks := tk } := by
    have hnt4 : ∀ {Q' : Bool → Shared → Prop}, Q' false { s₁ with heap := causeFrom s₁.heap a (.ref x1), toks := tk } → wpAny (model prog w) A (isType (.ref a)) Q' E { s₁ with heap := causeFrom s₁.heap a (.ref x1), toks := tk } := by
      intro Q' hq
      simp only [isType, loadHead]
      refine wpAny_bind (wpAny_loadPart (s := { s₁ with heap := causeFrom s₁.heap a (.ref x1), toks := tk }) ha4 ?_)
      rw [hd4]; exact wpAny_pure hq
    refine wpAny_bind (hnt4 ?_)
    simp only [Bool.false_eq_true, if_false]
    unfold raisedInstance
    refine wpAny_bind (wpAny_bind (LT4 _ _ _ { s₁ with heap := causeFrom s₁.heap a (.ref x1), toks := tk } (fun _ _ z => z) (wpAny_bind (L3 _ _ _ { s₁ with heap := causeFrom s₁.heap a (.ref x1), toks := tk } (fun _ _ z => z) ?_))))
    rw [if_pos (beq_self_eq_true _)]
    refine wpAny_pure ?_
    unfold setFlight
    refine wpAny_bind (wpAny_bind (wpAny_field (s := { s₁ with heap := causeFrom s₁.heap a (.ref x1), toks := tk }) ha4 hd4 h14 ?_))
    rw [if_neg (by decide)]
    refine wpAny_pure ?_
    exact raiseNew_hot (s := { s₁ with heap := causeFrom s₁.heap a (.ref x1), toks := tk }) hot4 hne ha4 hd4 s2 (hE tk)
  dsimp only
  refine wpAny_bind (wpAny_holding ?_)
  unfold excFromValue isExcClass
  refine wpAny_bind (wpAny_bind (hnt ha hd ?_))
  simp only [Bool.false_eq_true, if_false]
  refine wpAny_pure ?_
  simp only [Bool.false_eq_true, if_false]
  refine wpAny_bind (LI _ _ _ { s₁ with toks := tk } (fun _ _ z => z) ?_)
  simp only [if_true]
  refine wpAny_pure ?_
  rw [if_neg (show ¬ ((Value.ref x1 == Value.none) = true) from by simp)]
  refine wpAny_bind (wpAny_holding ?_)
  refine wpAny_bind (wpAny_bind (hnt g1 gd1 ?_))
  simp only [Bool.false_eq_true, if_false]
  refine wpAny_pure ?_
  simp only [Bool.false_eq_true, if_false]
  refine wpAny_bind (LI1 _ _ _ { s₁ with toks := tk } (fun _ _ z => z) ?_)
  simp only [if_true]
  refine wpAny_pure ?_
  refine wpAny_bind (wpAny_setField (s := { s₁ with toks := tk }) ha hd s3 (wpAny_bind (wpAny_setField (s := { s₁ with heap := s₁.heap.update a (Obj.mapFields (·.setIfInBounds 3 (.ref x1))), toks := tk }) ha3 hd3 s4 ?_)))
  exact rest
/-- raise X(..) from n, in the suite of an except .. as n -/
theorem ps_raiseHC {X : Cx} {W : WX} {e : Expr} {t : L2.St → Hp → XK → Prop} {i : Nat} {n : Str} {p : Addr × Obj} {cpos pos : Pos} (hot : L2H.Hot1 X.A p) (hp : p ∈ X.pn) (hB : isSubtype p.2.cls (.type "BaseException") = pure true) (hN : X.N[i]? = some n)
    (hl : X.env.kindOf n = some .local) (hv : Vis X.env.scope n) (tk : L2.Takes X W) (he : L2H.PMk5 X e t) (hdb : (n == ("__debug__" : Str)) = false := by decide) :
    PS X (.Raise (some e) (some (.Name n cpos)) pos) (fun _ σ H => σ[i]? = some (some (.ref p.1)) ∧ t σ H fun cls d H' => W cls d σ H') := by
  refine ⟨fun pins s σ H D I h => ?_⟩
  obtain ⟨hi, h⟩ := h
  obtain ⟨hh, v1, e1, c1⟩ := hot
  show wpAny _ _ (do standAt pos; raiseStmt X.env (some (do let v ← eval e X.env; standAt pos; pure v)) (some (do let v ← eval (.Name n cpos) X.env; standAt pos; pure v))) _ _ _
  refine wpAny_bind (wpAny_standAt (raise_made_hotC (x1 := p.1) (wpAny_bind (wpAny_mono (he pins s σ H _ I h) (fun u s1 hu => wpAny_bind (wpAny_standAt (wpAny_pure ?_))) fun _ _ x => x))))
  obtain ⟨⟨a, oe, vs, sI, H', cls, d, rfl, J, k, hne, ha, hz, hd, h1, na, os, ag, r, q⟩, h5⟩ := hu
  have hi4 : 4 < vs.size := h5 a oe vs rfl ha hd
  have I1 : Inv X pins σ H' s1 := J.landed (B := sI.heap) (fun b o z _ => z) k (Heap.UpToSlots.of_keeps k) os ag
  have k4 : ∀ b u, sI.heap.get? b = some u → (causeFrom s1.heap a (.ref p.1)).get? b = some u := fun b u z => by
    have nab : a ≠ b := fun y => by
      rw [← y, hne] at z
      cases z
    rw [causeFrom_other nab]
    exact k b u z
  obtain ⟨r1, _⟩ := r (model X.prog X.w) s1.heap (J.kIn.keeps k)
  obtain ⟨_, r2⟩ := r (model X.prog X.w) (causeFrom s1.heap a (.ref p.1)) (J.kIn.keeps k4)
  have P1 := (J.pin p (List.mem_append_left _ hp)).1
  have nap : p.1 ≠ a := fun z => by
    rw [z, hne] at P1
    cases P1
  obtain ⟨ha4, hd4⟩ := causeFrom_at (c := .ref p.1) ha hd
  have h12 : (((vs.setIfInBounds 3 (Value.ref p.1)).setIfInBounds 4 (Value.bool true)).setIfInBounds 2 (Value.ref p.1))[1]? = some Value.none := set_other (by decide) (set_other (by decide) (set_other (by decide) h1))
  refine ⟨a, oe, vs, cls, p.2, v1, p.2.cls, rfl, ha, hz.1, hd, h1, hi4, nap, ⟨hh, p.2, v1, k _ _ P1, e1, c1⟩, fun Q' hq => ?_, k _ _ P1, rfl, e1, PySem.W.Looks.of_pure hB, r1, r2, fun tk' => tk _ _ (XE.new J (fun b u z => ?_) hne (Heap.get?_update_self _ ha4 (Obj.isFreed_of_fields (Obj.data_mapFields hd4 _)))
    ⟨by rw [Obj.cls_mapFields, Obj.cls_mapFields, Obj.cls_mapFields]; exact hz.1, by rw [HandSPX.dict_mapFields, HandSPX.dict_mapFields, HandSPX.dict_mapFields]; exact hz.2.1⟩ (Obj.data_mapFields hd4 _) h12 na os ag q)⟩
  · obtain ⟨m, hn, hlk⟩ := I1.loc
    obtain ⟨u, ru, l⟩ := hlk i n _ hN hi hv
    cases (show u = Value.ref p.1 from ru)
    rcases l with ⟨hk, hm⟩ | ⟨hk, _⟩
    · exact wpAny_bind (wpAny_Name (wpAny_loadName_local I1.ok.kind hk hn hm (wpAny_bind (wpAny_standAt (wpAny_pure (hq s1.toks))))) hdb)
    · rw [hl] at hk
      rcases hk with hk | hk <;> cases hk
  · have nab : a ≠ b := fun y => by
      rw [← y, hne] at z
      cases z
    show ((causeFrom s1.heap a (.ref p.1)).update a (Obj.mapFields (·.setIfInBounds 2 (.ref p.1)))).get? b = some u
    rw [Heap.get?_update_other _ _ nab]
    exact k4 b u z
/-! ### try: body, except x as n: a suite that raises out of it -/
abbrev sX (X : Cx) (a : Addr) (pn : List (Addr × Obj)) (xe : Value → Shared → Prop) : Cx := { X with A := X.A.mark (some (.ref a)), calm := false, pn := pn, xe := xe }
def wAsC (K : PySem.W.Frag) (c : Value) (i : Nat) (ts : Addr → Value → Option Addr → TS) (D : Ends) : WX := fun cls d σ H =>
  PySem.W.exmOne K cls c = some true ∧ ∀ a, H a = none → ts a cls d { nx := fun σ' H' => D.nx (σ'.set i none) H', rt := D.rt, bk := fun σ' H' => D.bk (σ'.set i none) H', ct := fun σ' H' => D.ct (σ'.set i none) H' } (σ.set i (some (.ref a))) H
theorem ff_gone {h h' B : Heap} {L : Addr} {m : Str → Option Value} (hs : Heap.SameBut L h h') (hn : h'.Ns L m) : ∀ {l : List Env}, h.FunFrames B l → h'.FunFrames B l
  | [], _ => trivial
  | env :: rest, ⟨hk, ⟨L', o, hf, hb, ho, hd⟩, hr⟩ => ⟨hk, by
      by_cases e : L' = L
      · subst e
        obtain ⟨o', es, ep, ho', hd', _⟩ := hn
        exact ⟨L', o', hf, hb, ho', fun vs z => by rw [hd'] at z; cases z⟩
      · exact ⟨L', o, hf, hb, (hs.2 _ e).trans ho, hd⟩, ff_gone hs hn hr⟩
theorem held_gone {h h' B : Heap} {L a : Addr} {m : Str → Option Value} {env : Env} {outer : List Env} {Z : Obj → Prop} (hf : env.frame = some L) (hs : Heap.SameBut L h h') (hn : h'.Ns L m) (x : HandSPX.HeldZ B (env :: outer) a Z L h) : HandSPX.HeldZ B (env :: outer) a Z L h' := by
  obtain ⟨k1, k2, k3, oe, vs, T, oT, ts, he, hz, hd, h1, hnT, hTe, hT, hdT, h3⟩ := x
  obtain ⟨_, ⟨L', oL, hf', hb, ho, hdL⟩, _⟩ := id k3
  rw [hf] at hf'
  cases hf'
  have na : a ≠ L := fun z => by
    rw [z, ho] at he
    cases he
    exact hdL _ hd
  have nT : T ≠ L := fun z => by
    rw [z, ho] at hT
    cases hT
    exact hdL _ hdT
  refine ⟨fun b o e => ?_, k2, ff_gone hs hn k3, oe, vs, T, oT, ts, (hs.2 _ na).trans he, hz, hd, h1, hnT, hTe, (hs.2 _ nT).trans hT, hdT, h3⟩
  have nb : b ≠ L := fun z => by
    rw [z, hb] at e
    cases e
  exact (hs.2 _ nb).trans (k1 b o e)
theorem sky_note {M : Model} {A : Around} {E₁ : Value → Shared → Prop} {s : Shared} {B : Heap} {env : Env} {outer : List Env} {L a : Addr} {Z : Obj → Prop} {Q : Unit → Shared → Prop} (hZ : HandSPX.Steady Z) (hfr : A.frames = some (env :: outer)) (hf : env.frame = some L)
    (x : Sky B (env :: outer) a Z L s.heap) (hQ : ∀ h', HandSPX.HeldZ B (env :: outer) a Z L h' → s.heap.UpToSlots h' → Q () { s with heap := h' }) : wpAny M A (noteFrame (.ref a) env) Q E₁ s := by
  rcases x with ⟨hB, hn, hl, oe, vs, he, hz, hd, h1⟩ | fl | hh
  · exact HandSPX.look_newZ hZ hfr hl hf he hB hn hd h1 hz hQ
  · exact HandSPX.looks_onZ hZ hfr hf fl hQ
  · exact HandSPX.againZ hf hh.2.2.2 (hQ s.heap hh (Heap.UpToSlots.refl _))
theorem Inv.unbound {X : Cx} {pins : List (Addr × Obj)} {σ : L2.St} {H : Hp} {s : Shared} {i : Nat} {n : Str} {h' : Heap} {m' : Str → Option Value} (I : Inv X pins σ H s) (hN : X.N.Nodup) (hi : X.N[i]? = some n)
    (hm : ∀ m, s.heap.Ns X.env.locals m → ∀ y, y ≠ n → m' y = m y) (hn' : h'.Ns X.env.locals m') (hs : Heap.SameBut X.env.locals s.heap h') : Inv X pins (σ.set i none) H { s with heap := h' } := by
  obtain ⟨m, hn, hlk⟩ := id I.loc
  have neL : ∀ b o, X.s_0.heap.get? b = some o → b ≠ X.env.locals := fun b o e => Nat.ne_of_lt (Nat.lt_of_lt_of_le (Heap.lt_size e) I.ok.above)
  refine ⟨I.ok, I.os, I.bare, ⟨fun b o e n hb hx => (hs.2 b (neL b o e)).trans (I.base.keep b o e n hb hx), fun b o e n hb hx => ?_, I.base.free, fun b o e hx => ?_, I.base.tups, I.base.frzs, I.base.tbls⟩, ⟨_, hn', fun j y v' e1 e2 e3 => ?_⟩, fun y c e => ?_, I.free, I.freeC, fun p hp => ?_, fun b ob e => ?_, by simpa using I.len⟩
  · obtain ⟨sl, e1⟩ := I.base.slot b o e n hb hx
    exact ⟨sl, (hs.2 b (neL b o e)).trans e1⟩
  · obtain ⟨o', e1⟩ := I.base.there b o e hx
    exact ⟨o', (hs.2 b (neL b o e)).trans e1⟩
  · have hj : j ≠ i := fun z => by
      subst z
      by_cases hlt : j < σ.length
      · rw [List.getElem?_set_self hlt] at e2; cases e2
      · rw [List.getElem?_eq_none (by simpa using hlt)] at e2; cases e2
    rw [List.getElem?_set_ne (Ne.symm hj)] at e2
    obtain ⟨u', r', q⟩ := hlk j y v' e1 e2 e3
    refine ⟨u', r', ?_⟩
    rcases q with ⟨k, e⟩ | ⟨k, c, e, z⟩
    · exact .inl ⟨k, (hm m hn y fun e => hj (nodup_ix hN e1 (e ▸ hi))).trans e⟩
    · exact .inr ⟨k, c, e, z.sameBut hs (I.cne y c e)⟩
  · obtain ⟨w', z⟩ := I.cell y c e
    exact ⟨w', z.sameBut hs (I.cne y c e)⟩
  · obtain ⟨e, n, ne, nf, d⟩ := I.pin p hp
    exact ⟨(hs.2 p.1 ne).trans e, n, ne, nf, d⟩
  · refine (I.hok b ob e).stay (fun c w' hc q => (hs.2 c ?_).trans q) (fun _ q => q) fun _ _ q => q
    intro z
    subst z
    rcases hc with hc | hc
    · rw [← hc, I.free] at e; cases e
    · rw [I.free] at hc; cases hc
theorem ns_of {h h' : Heap} {L : Addr} {m : Str → Option Value} (hn : h.Ns L m) (up : h.UpToSlots h') : h'.Ns L m := by
  obtain ⟨o, es, ep, ho, hd, hk, hx⟩ := hn
  obtain ⟨sl, e⟩ := up L o ho fun vs z => by rw [hd] at z; cases z
  exact ⟨_, es, ep, e, hd, hk, hx⟩
theorem ns_uniq {h : Heap} {L : Addr} {m m' : Str → Option Value} (hn : h.Ns L m) (hn' : h.Ns L m') (x : Str) : m x = m' x := by
  obtain ⟨o, es, ep, ho, hd, _, hx⟩ := hn
  obtain ⟨o', es', ep', ho', hd', _, hx'⟩ := hn'
  rw [ho] at ho'
  cases ho'
  rw [hd] at hd'
  cases hd'
  rw [← hx, ← hx']
section
variable {X : Cx} {x n : Str} {c : Value} {i : Nat} {body suite : List Stmt} {b₀ : Stmt} {np pos pos' : Pos} {tb : WX → TS} {ts : Addr → Value → Option Addr → TS} {Wout : WX}
theorem ps_try_asC (hs : X.stack = X.env :: X.outer) (hf : X.env.frame = some X.env.locals) (hN : X.N.Nodup) (hi : X.N[i]? = some n) (hln : X.env.kindOf n = some .local) (hc : Names X x c) (tk : L2.Takes X Wout)
    (hb : ∀ (W : WX) (pn : List (Addr × Obj)) (xe : Value → Shared → Prop), L2N.Takes (X.tr pn xe) W → PassesOwn (model X.prog X.w) X.A X.env xe → PSs (X.tr pn xe) body (tb W))
    (hsu : ∀ (a : Addr) (oe : Obj) (cls : Value) (d : Option Addr) (pn : List (Addr × Obj)) (xe : Value → Shared → Prop), L2N.Zn cls d oe → (∃ vs, oe.data = .fields vs) → L2.Takes (sX X a ((a, oe) :: pn) xe) (fun cls d σ H => Wout cls d (σ.set i none) H) →
      PSs (sX X a ((a, oe) :: pn) xe) (b₀ :: suite) (ts a cls d)) :
    PS X (.Try body [.ExceptHandler (some (.Name x np)) (some n) (b₀ :: suite) pos'] [] [] pos) (fun D σ H => tb (wAsC X.K c i ts D) D σ H) := by
  refine ⟨fun pins s σ H D I h => ?_⟩
  have ok := I.ok
  have hfr : X.A.frames = some (X.env :: X.outer) := by rw [ok.frames, hs]
  have hloc : Loc X.env.scope n := .inl hln
  have hcls : (X.env.scope.kind == .class || (X.env.scope.kind == .module && X.env.locals != X.env.globals)) = false := by rw [ok.kind]; rfl
  refine wpAny_Try_except ?_
  refine wpAny_mono ((hb (wAsC X.K c i ts D) (X.pn ++ pins) (fun e s₁ => wpAny (model X.prog X.w) X.A (noteFrame e X.env) (fun _ s₂ => wpAny (model X.prog X.w) X.A (setFlight e none) (fun _ s₃ =>
    wpAny (model X.prog X.w) X.A (handleBy e X.env [.ExceptHandler (some (.Name x np)) (some n) (b₀ :: suite) pos']) (SP X pins D) X.xe s₃) X.xe s₂) X.xe s₁) (fun u s' xx => ?_) PassesOwn.looking).run [] s σ H D (I.toTry _) h) (fun f s1 hsp => ?_) (fun e s1 he => he)
  · obtain ⟨a, B, sI, pins', σ', H', cls, d, rfl, J', nb, up, sky, na, os, ag, hb1, hyes⟩ := xx
    have J : Inv X pins σ' H' sI := J'.ofTry ok
    have sky' : Sky B (X.env :: X.outer) a (L2N.Zn cls d) X.env.locals s'.heap := by rw [← hs]; exact sky
    show wpAny (model X.prog X.w) X.A (noteFrame (.ref a) X.env) _ _ _
    refine L2N.Sky.land L2N.Zn.steady hfr hf sky' fun h3 fl3 up3 => ?_
    have J3 : Inv X pins σ' H' { s' with heap := h3 } := J.landed nb fl3.1 (up.trans up3) os ag
    obtain ⟨oe3, vs3, he3, hz3, hd3⟩ := fl3.there
    have notFr : ∀ {h : Heap} {o : Obj} {vs : Array Value}, h.FunFrames B (X.env :: X.outer) → h.get? a = some o → o.data = .fields vs → a ∉ frs (X.env :: X.outer) := fun {h o vs} ff e dd hm => by
      obtain ⟨_, o', e', hnf⟩ := ff.mem hm
      rw [e] at e'; cases e'
      exact hnf _ dd
    have nfr := notFr fl3.2.2.1 he3 hd3
    have nL : a ≠ X.env.locals := fun z => nfr (List.mem_filterMap.mpr ⟨X.env, List.mem_cons_self, by rw [hf, z]⟩)
    have nF : a ∉ X.fs := fun hm => by
      obtain ⟨e, he, q⟩ := List.mem_filterMap.mp hm
      exact nfr (List.mem_filterMap.mpr ⟨e, List.mem_cons_of_mem _ he, q⟩)
    have S3 := J3.suite he3 hd3 na nL nF
    refine wpAny_handleBy_cons (codeAny_handlers_test ?_) (by intro q; cases q)
    have LT : PySem.W.Looks (model X.prog X.w) h3 (typeOf (.ref a)) cls := fun A Q E s k q => wpAny_typeOf_ref (k _ _ he3) (by rw [hz3.1]; exact q)
    have LM := PySem.W.exm_one (M := model X.prog X.w) (J3.kIn) LT hb1
    have test : ∀ {Q : Value → Shared → Prop} {E : Value → Shared → Prop}, Q c { s' with heap := h3 } → wpAny (model X.prog X.w) (X.A.mark (some (.ref a))) (eval (.Name x np) X.env) Q E { s' with heap := h3 } := fun {Q E} q => by
      obtain ⟨hg, hdbg, hm | ⟨hm, hv, hnn⟩⟩ := hc
      · exact ld_glob (X := X.suite a ((a, oe3) :: (X.pn ++ pins))) S3 hg hm q hdbg
      · exact ld_blt (X := X.suite a ((a, oe3) :: (X.pn ++ pins))) S3 hg hm hv q hnn hdbg
    refine test (LM.here ?_)
    refine codeAny_handlers_suite_as ?_
    refine HandSPX.lands_againZ fl3 fun h4 fl4 up4 => ?_
    have J4 : Inv X pins σ' H' { s' with heap := h4 } := J.landed nb fl4.1 ((up.trans up3).trans up4) os ag
    obtain ⟨oe4, vs4, he4, hz4, hd4⟩ := fl4.there
    have S4 := J4.suite he4 hd4 na nL nF
    refine store_ok (X := X.suite a ((a, oe4) :: (X.pn ++ pins))) (v := .ref a) S4 hN hi hloc rfl (fun s5 S5 => ?_) (.inr hln)
    refine wpAny_mono ((hsu a oe4 cls d (X.pn ++ pins) _ hz4 ⟨_, hd4⟩ ?_).run [] s5 _ H' _ (Inv.unwish (X := sX X a ((a, oe4) :: (X.pn ++ pins)) _) (E := fun _ _ => False) S5) (hyes a na)) (fun f s6 hsp => ?_) (fun _ _ z => z)
    · -- what the suite raises
      rintro u2 s2 ⟨a2, B2, sI2, pn2, σ2, H2, cls2, d2, rfl, I2, nb2, up2, sky2, na2, os2, ag2, w2⟩
      have J2 : Inv X pins σ2 H2 sI2 := Inv.unsuite (X := X) (a := a) (q := (a, oe4)) (pn' := pn2) (show Inv (X.suite a ((a, oe4) :: (X.pn ++ pins))) pn2 σ2 H2 sI2 from I2.wish fun _ _ => False) ok
      have sky2' : Sky B2 (X.env :: X.outer) a2 (Zc cls2 d2) X.env.locals s2.heap := by rw [← hs]; exact sky2
      refine sky_note Zc.steady hfr hf sky2' fun h5 hh5 up5 => ?_
      obtain ⟨m, hn, _⟩ := id J2.loc
      have hn5 := ns_of hn (up2.trans up5)
      refine wpAny_nameGoes_keeps (s := { s2 with heap := h5 }) hln hn5 hcls fun h6 v hn6 hs6 => ?_
      have hh6 := held_gone hf hs6 hn6 hh5
      have last : ∀ h7, HandSPX.HeldZ B2 (X.env :: X.outer) a2 (Zc cls2 d2) X.env.locals h7 → h6.UpToSlots h7 → X.xe (.ref a2) { s2 with heap := h7, toks := s2.toks + 1 } := fun h7 hh7 up7 => by
        obtain ⟨oL, es, ep, hoL, hdL, _, _⟩ := id hn6
        obtain ⟨o2, _, _, ho2, _⟩ := id hn
        have hnf : oL.isFreed = false := by
          obtain ⟨c1, c2, c3, c4⟩ := oL
          dsimp only at hdL
          subst hdL
          rfl
        have u1 : (sI2.heap.update X.env.locals fun _ => oL).get? X.env.locals = some oL := Heap.get?_update_self (fun _ => oL) ho2 hnf
        have u2 : ∀ b, b ≠ X.env.locals → (sI2.heap.update X.env.locals fun _ => oL).get? b = sI2.heap.get? b := fun b hb => Heap.get?_update_other _ _ (Ne.symm hb)
        have nsU : (sI2.heap.update X.env.locals fun _ => oL).Ns X.env.locals (fun x => if x = n then v else m x) := by
          obtain ⟨oL', es', ep', hoL', r⟩ := id hn6
          rw [hoL] at hoL'
          cases hoL'
          exact ⟨oL, es', ep', u1, r⟩
        have JU := Inv.unbound J2 hN hi (fun m2 hm2 y hy => by
          show (if y = n then v else m y) = m2 y
          rw [if_neg hy]
          exact ns_uniq hn hm2 y) nsU ⟨Heap.size_update .., u2⟩
        refine tk _ _ ⟨a2, B2, _, pins, _, H2, cls2, d2, rfl, JU, fun b o e hb => ?_, fun b o e hnf2 => ?_, .inr (.inr (by rw [hs]; exact hh7)), na2, os2, ag2, w2⟩
        · have nbL : b ≠ X.env.locals := fun z => hb (by
            rw [hs]
            exact List.mem_filterMap.mpr ⟨X.env, List.mem_cons_self, by rw [hf, z]⟩)
          rw [show ({ sI2 with heap := sI2.heap.update X.env.locals fun _ => oL } : Shared).heap.get? b = sI2.heap.get? b from u2 b nbL] at e
          exact nb2 b o e hb
        · by_cases hbL : b = X.env.locals
          · subst hbL
            rw [show ({ sI2 with heap := sI2.heap.update X.env.locals fun _ => oL } : Shared).heap.get? X.env.locals = some oL from u1] at e
            cases e
            exact up7 _ _ hoL hnf2
          · rw [show ({ sI2 with heap := sI2.heap.update X.env.locals fun _ => oL } : Shared).heap.get? b = sI2.heap.get? b from u2 b hbL] at e
            obtain ⟨sl, e5⟩ := (up2.trans up5) b o e hnf2
            obtain ⟨sl2, e7⟩ := up7 b _ ((hs6.2 b hbL).trans e5) hnf2
            exact ⟨sl2, e7⟩
      have again : ∀ {A0 : Around} {E0 : Value → Shared → Prop} {h7 : Heap} {Q0 : Unit → Shared → Prop}, HandSPX.HeldZ B2 (X.env :: X.outer) a2 (Zc cls2 d2) X.env.locals h7 → (∀ h8, HandSPX.HeldZ B2 (X.env :: X.outer) a2 (Zc cls2 d2) X.env.locals h8 → h7.UpToSlots h8 → Q0 () { s2 with heap := h8, toks := s2.toks + 1 }) →
          wpAny (model X.prog X.w) A0 (setFlight (.ref a2) X.env.frame) Q0 E0 { s2 with heap := h7, toks := s2.toks + 1 } := fun {A0 E0 h7 Q0} hh hq => by
        rw [hf]
        exact HandSPX.setFlight_onZ (s := { s2 with heap := h7, toks := s2.toks + 1 }) hh hq
      have two : ∀ h7, HandSPX.HeldZ B2 (X.env :: X.outer) a2 (Zc cls2 d2) X.env.locals h7 → h6.UpToSlots h7 → notedBy (model X.prog X.w) (X.A.mark (some (.ref a))) X.env (fun x s' => cameBackBy (model X.prog X.w) X.A X.env X.xe x s') (.ref a2) { s2 with heap := h7, toks := s2.toks + 1 } := fun h7 hh7 up7 => by
        unfold notedBy
        refine HandSPX.againZ (s := { s2 with heap := h7, toks := s2.toks + 1 }) hf hh7.2.2.2 ?_
        unfold cameBackBy
        obtain ⟨k1, k2, k3, oe, vs, T, oT, ts', he, hz, hd, h1, hr⟩ := id hh7
        refine wpAny_bind (wpAny_field (s := { s2 with heap := h7, toks := s2.toks + 1 }) he hd h1 ?_)
        rw [if_neg (show ¬ ((Value.ref T == Value.none) = true) from by simp)]
        first
          | exact wpAny_bind (wpAny_pure (again hh7 fun h8 hh8 up8 => last h8 hh8 (up7.trans up8)))
          | exact again hh7 fun h8 hh8 up8 => last h8 hh8 (up7.trans up8)
      unfold PySem.passOn
      obtain ⟨k1, k2, k3, oe, vs, T, oT, ts', he, hz, hd, h1, hr⟩ := id hh6
      refine wpAny_bind (wpAny_field (s := { s2 with heap := h6, toks := s2.toks + 1 }) he hd h1 ?_)
      rw [if_neg (show ¬ ((Value.ref T == Value.none) = true) from by simp)]
      first
        | exact wpAny_bind (wpAny_pure (wpAny_bind (again hh6 fun h7 hh7 up7 => wpAny_throw (two h7 hh7 up7))))
        | exact wpAny_bind (again hh6 fun h7 hh7 up7 => wpAny_throw (two h7 hh7 up7))
    have end_ : ∀ {σ6 : L2.St} {H6 : Hp} {Q : Shared → Prop}, Inv (X.suite a ((a, oe4) :: (X.pn ++ pins))) [] σ6 H6 s6 → (∀ s7, Inv X pins (σ6.set i none) H6 s7 → Q s7) →
        wpAny (model X.prog X.w) X.A (do bindName X.env n .none; unbindBehindTheSuite X.env n pos') (fun _ s7 => Q s7) X.xe s6 := fun {σ6 H6 Q} S6 hq => gone_ok (S6.unsuite ok) hN hi hln hq
    have uw : ∀ {σ6 : L2.St} {H6 : Hp} {xe : Value → Shared → Prop}, Inv (sX X a ((a, oe4) :: (X.pn ++ pins)) xe) [] σ6 H6 s6 → Inv (X.suite a ((a, oe4) :: (X.pn ++ pins))) [] σ6 H6 s6 := fun {σ6 H6 xe} z => z.wish fun _ _ => False
    cases f with
    | next =>
      obtain ⟨σ6, H6, S6, q6⟩ := hsp
      exact end_ (uw S6) fun s7 J7 => ⟨_, _, J7, q6⟩
    | brk =>
      obtain ⟨σ6, H6, S6, q6⟩ := hsp
      exact end_ (uw S6) fun s7 J7 => ⟨_, _, J7, q6⟩
    | cont =>
      obtain ⟨σ6, H6, S6, q6⟩ := hsp
      exact end_ (uw S6) fun s7 J7 => ⟨_, _, J7, q6⟩
    | ret u =>
      obtain ⟨v6, σ6, H6, S6, r6, q6⟩ := hsp
      exact end_ (uw S6) fun s7 J7 => ⟨_, _, _, J7, r6, q6⟩
  · cases f with
    | next =>
      obtain ⟨σ', H', J', q⟩ := hsp
      exact wpAny_execs_nil ⟨σ', H', J'.ofTry ok, q⟩
    | brk =>
      obtain ⟨σ', H', J', q⟩ := hsp
      exact ⟨σ', H', J'.ofTry ok, q⟩
    | cont =>
      obtain ⟨σ', H', J', q⟩ := hsp
      exact ⟨σ', H', J'.ofTry ok, q⟩
    | ret u =>
      obtain ⟨v, σ', H', J', r, q⟩ := hsp
      exact ⟨v, σ', H', J'.ofTry ok, r, q⟩
end
end Bl

/-! try: s = a // b, except ZeroDivisionError as n: raise X('..') from n -/
namespace Bl
open PySem PySem.Spec PyProof.Rows L2 HotX
def tDivX (W : WX) (ta tb : TE) : TE := fun σ H Q => ta σ H fun x H1 => tb σ H1 fun y H2 => ∃ i j : Int, x = .int i ∧ y = .int j ∧ ((CDiv' j ∧ Q (.int (i.fdiv j)) H2) ∨ (j = 0 ∧ ∀ d, W (.type "ZeroDivisionError") d σ H2))
theorem pe_divX {X : Cx} {W : WX} {a b : Expr} {ta tb : TE} {pos : Pos} (hc : X.calm = true) (tk : L2N.Takes X W) (ha : PE X a ta) (hb : PE X b tb) : PE X (.BinOp a .FloorDiv b pos) (tDivX W ta tb) := by
  refine ⟨fun pins s σ H Q I h => ?_⟩
  refine wpAny_BinOp (bin ha hb I (R := fun x y H2 => ∃ i j : Int, x = .int i ∧ y = .int j ∧ ((CDiv' j ∧ Q (.int (i.fdiv j)) H2) ∨ (j = 0 ∧ ∀ d, W (.type "ZeroDivisionError") d σ H2))) h fun v u s2 x y H2 I2 rx ry q => ?_)
  obtain ⟨i, j, rfl, rfl, q⟩ := q
  obtain ⟨t, rfl⟩ := rx
  obtain ⟨t', rfl⟩ := ry
  rcases q with ⟨hd, q⟩ | ⟨rfl, w⟩
  · exact floordiv_int hd.1 ⟨.int _, H2, I2.tok _, ⟨_, rfl⟩, q⟩ (.inl (PyProof.noPylong_of_log2 hd.2))
  · exact AutoIntOps.floordiv_0 rfl ⟨I2.ok.hd hc, fun h' tk' e ne => L2N.takes_newN (t' := tk') tk I2 ne w⟩
/-- X('m'), with its six fields -/
theorem pmk_own5 {X : Cx} {C : Addr} {bmB : List Value} {B newId initId : String} {x m : Str} {j : Nat} {p p2 pos : Pos} (F : ExcBaseFacts B newId initId bmB) (q : PySem.W.excIn X.K C bmB newId = true) (gC : X.mg x = some (.ref C)) (kC : PySem.W.keepIn X.K (.ref C) = true) (r : Raises X (.ref C)) (hg : Gl X x)
    (hdb : (x == ("__debug__" : Str)) = false := by decide) : L2H.PMk5 X (.Call (.Name x p) [.Constant (.str m) j p2] [] pos) (fun _ H Q => Q (.ref C) none H) := by
  intro pins s σ H Q I h
  refine wpAny_Call_Name_kw (ld_glob I hg gC ?_ hdb)
  have ha : PA X [.Constant (.str m) j p2] (tCons (tC (.str m)) tNil) := pa_cons pe_str pa_nil
  refine PySem.W.callWith_K (h₀ := X.base) I.ok.mod.kin kC (thn (ha.run pos pins s σ H (fun vs H1 => vs = [V.str m] ∧ H = H1) I ⟨rfl, rfl⟩) fun us s1 hh => ?_)
  obtain ⟨vs, H1, I1, r1, evs, eH⟩ := hh
  subst evs
  rw [← eH] at I1
  refine ⟨I1.kIn, ?_⟩
  obtain ⟨u, rfl, _⟩ := vals1 r1
  show wpAny _ _ (call (.ref C) [u]) _ _ _
  obtain ⟨bm, N, nm, qn, bs, hdct, sn, sub, ab, col, dd, k0, k1, k2, k3, k5, mN, hC, hN, hni, T⟩ := exc_obj I1.kIn q
  refine wpAny_call_exc_subT F T hC hN hni (fun h' e hm => ?_) (by show 1 ≤ sizeLine; rw [sizeLine_eq]; omega)
  exact L2H.mk_of5 I1 hm r h (I1.hok.gone hm.new)
theorem sub_zd : isSubtype (.type "ZeroDivisionError") (.type "BaseException") = pure true := by
  have h := PySem.F.excBase_ZeroDivisionError
  unfold isSubtype
  first
    | rfl
    | (rw [h.mroIs]; rfl)
    | (simp only [h.mroIs, pure_bind]; rfl)
/-- what the head tells of a class under ZeroDivisionError -/
def zdBase : List Value := [.type "ZeroDivisionError", .type "ArithmeticError", .type "Exception", .type "BaseException", .type "object"]
def excZB (K : PySem.W.Frag) (x : Str) : Bool := PySem.W.excIn K (He.ga K x) zdBase "ZeroDivisionError.__new__" && (PySem.W.keepIn K (.ref (He.ga K x)) && (decide (PySem.W.subIn K (.ref (He.ga K x)) (.type "BaseException") = some true) && (decide (PySem.W.typeIn K (.ref (He.ga K x)) = some (.type "type")) && decide (PySem.W.exmOne K (.type "ZeroDivisionError") (.type "ZeroDivisionError") = some true))))
def sTryDiv (ta tb : TEd) (j i : Nat) (C : Str) : TSd := fun env S N => ta env S (fun x S1 => tb env S1 (fun y S2 => match x, y with
  | .int p, .int q => if q = 0 then N.ex ⟨C, []⟩ (env.set i none) S2 else CDiv' q ∧ N.nx (env.set j (some (.int (p.fdiv q)))) S2
  | _, _ => False) fun _ _ => False) fun _ _ => False
theorem moTryDiv {ta tb : TEd} {j i : Nat} {C : Str} (ha : MoE ta) (hb : MoE tb) : MoS (sTryDiv ta tb j i C) := fun env S A B l h => ha _ _ _ _ _ _ (fun x S1 qa => hb _ _ _ _ _ _ (fun y S2 qb => by
  cases x <;> first | exact qb.elim | skip
  cases y <;> first | exact qb.elim | skip
  rename_i u v
  have qb : if v = 0 then A.ex ⟨C, []⟩ (env.set i none) S2 else CDiv' v ∧ A.nx (env.set j (some (.int (u.fdiv v)))) S2 := qb
  show if v = 0 then B.ex ⟨C, []⟩ (env.set i none) S2 else CDiv' v ∧ B.nx (env.set j (some (.int (u.fdiv v)))) S2
  by_cases h0 : v = 0
  · rw [if_pos h0] at qb ⊢
    exact l.ex _ _ _ qb
  · rw [if_neg h0] at qb ⊢
    exact ⟨qb.1, l.nx _ _ qb.2⟩) (fun _ _ z => z) qa) (fun _ _ z => z) h
section
variable {P : Program} {w : World} {K : PySem.W.Frag} {mg : Str → Option Value} {base : Heap} {N : List Str} {sc : Scope} {vw : Vw} {k : Nat} {X : Cx} {W : WX}
theorem js_try_div {a b : Expr} {ta tb : TEd} {sg n cx m : Str} {jj : Nat} {p1 p2 p3 p4 p5 p6 p7 p8 np pos pos' : Pos} (d : JD P w K mg base N sc vw k X W) (j i : Nat) (hj : N[j]? = some sg) (hjl : j ∈ vw.lo) (hi : N[i]? = some n) (hil : i ∈ vw.lo) (hiv : i ∈ vw.vl) (hz : ("ZeroDivisionError" : Str) ∈ vw.gs) (hm : mg "ZeroDivisionError" = none)
    (hcx : cx ∈ vw.gs) (hg : (He.Fa.glo cx).ok K = true) (he : excZB K cx = true) (hmc : mg cx = some (.ref (He.ga K cx)))
    (ha : ∀ X2 W2, JD P w K mg base N sc vw k X2 W2 → JE X2 W2 a ta) (hb : ∀ X2 W2, JD P w K mg base N sc vw k X2 W2 → JE X2 W2 b tb)
    (hsw : ∀ env, swapsWith (.BinOp a .FloorDiv b p2) (some (.Name sg p1)) p3.line env = pure false := by intro _; rfl) :
    JS X W (.Try [.Assign [.Name sg p1] (.BinOp a .FloorDiv b p2) p3] [.ExceptHandler (some (.Name "ZeroDivisionError" np)) (some n) [.Raise (some (.Call (.Name cx p4) [.Constant (.str m) jj p5] [] p6)) (some (.Name n p7)) p8] pos'] [] [] pos) (sTryDiv ta tb j i cx) := by
  obtain ⟨e1, he⟩ := He.ba he
  obtain ⟨e2, he⟩ := He.ba he
  obtain ⟨e3, he⟩ := He.ba he
  obtain ⟨e4, e5⟩ := He.ba he
  have e3 := of_decide_eq_true e3
  have e4 := of_decide_eq_true e4
  have e5 := of_decide_eq_true e5
  have hns : PySem.W.nsIn K mainGlobals cx = some (some (.ref (He.ga K cx))) := He.eqO_ok hg
  have hln : X.env.kindOf n = some .local := by
    show X.env.scope.names.lookup n = _
    rw [d.ss]
    exact d.sC.loc i hil n hi
  have hlj : X.env.scope.names.lookup sg = some .local := by rw [d.ss]; exact d.sC.loc j hjl sg hj
  have nms : Names X "ZeroDivisionError" (.type "ZeroDivisionError") := ⟨d.toJC.gl hz, by decide, .inr ⟨by rw [d.gg]; exact hm, by decide +kernel, by decide⟩⟩
  have jd : ∀ (pn : List (Addr × Obj)) (xe : Value → Shared → Prop), PassesOwn (model X.prog X.w) X.A X.env xe → JD P w K mg base N sc vw k (X.tr pn xe) W0 := fun pn xe po =>
    { prog := d.prog, ww := d.ww, kk := d.kk, gg := d.gg, bb := d.bb, nn := d.nn, ss := d.ss, sC := d.sC, nd := d.nd, calm := d.calm, room := d.room, tk := fun u s' x => by obtain ⟨_, _, _, _, _, _, _, _, _, _, _, _, _, _, _, _, w⟩ := x; exact w.elim, kd := d.kd, po := po, fn := d.fn, hs := d.hs, hf := d.hf }
  have ma : MoE ta := (ha _ _ d).mo
  have mb : MoE tb := (hb _ _ d).mo
  obtain ⟨v1, v2, v3⟩ := d.sC.vis i hiv n hi
  have hps := ps_try_asC (X := X) (x := "ZeroDivisionError") (n := n) (c := .type "ZeroDivisionError") (i := i) (body := [.Assign [.Name sg p1] (.BinOp a .FloorDiv b p2) p3]) (b₀ := .Raise (some (.Call (.Name cx p4) [.Constant (.str m) jj p5] [] p6)) (some (.Name n p7)) p8) (suite := []) (np := np) (pos := pos) (pos' := pos') (Wout := W)
    (tb := fun W2 => tAsg (tDivX W2 (LE X.K W0 ta) (LE X.K W0 tb)) (gName j))
    (ts := fun q cls dx M σ H => cls = .type "ZeroDivisionError" ∧ ∃ σ0 : L2.St, σ = σ0.set i (some (.ref q)) ∧ W (.ref (He.ga K cx)) none (σ0.set i none) H) d.hs d.hf (by rw [d.nn]; exact d.nd) (by rw [d.nn]; exact hi) hln nms d.tk
    (fun W2 pn xe tkN po => pss_one (ps_set (X := X.tr pn xe) (i := j) (by rw [d.nn]; exact d.nd) (by rw [d.nn]; exact hj) (.inl hlj) (pe_divX (X := X.tr pn xe) d.calm tkN (ha _ _ (jd pn xe po)).pe (hb _ _ (jd pn xe po)).pe) (hsw _) (.inr hlj))) fun q oe cls dx pn xe hzn hf tkS => ?_
  · refine ⟨PS.imp hps fun M σ H h => ?_, moTryDiv ma mb⟩
    obtain ⟨Z, env, S, re, rs, h⟩ := h
    refine LE.of ma re rs h (fun x S1 u1 H1 q1 a1 r1 => ?_) fun _ _ _ _ _ z => z.elim
    refine LE.of mb (re.step a1.st rs) a1.rs q1 (fun y S2 u2 H2 q2 a2 r2 => ?_) fun _ _ _ _ _ z => z.elim
    split at q2 <;> first | exact q2.elim | skip
    rename_i p q
    cases r1
    cases r2
    have re2 := (re.step a1.st rs).step a2.st a1.rs
    refine ⟨p, q, rfl, rfl, ?_⟩
    split at q2
    · rename_i h0
      refine .inr ⟨h0, fun dx => ⟨by rw [d.kk]; exact e5, fun q' na => ⟨rfl, σ, rfl, ?_⟩⟩⟩
      exact q2 _ none _ H2 (a1.trans a2) (re2.unset i) ⟨⟨_, by rw [d.kk]; exact hns, rfl⟩, rfl⟩
    · exact .inl ⟨q2.1, q2.2 _ H2 (a1.trans a2) (re2.set (.int _) j)⟩
  · refine pss_one ⟨fun pins s σ H M I hh => ?_⟩
    obtain ⟨rfl, σ0, rfl, hw⟩ := hh
    obtain ⟨vs, hd⟩ := hf
    have hot : L2H.Hot1 (X.A.mark (some (.ref q))) (q, oe) := ⟨rfl, vs, hd, hzn.2.2 vs hd⟩
    have hr : Raises (sX X q ((q, oe) :: pn) xe) (.ref (He.ga K cx)) := raises_own (by show PySem.W.subIn X.K _ _ = _; rw [d.kk]; exact e3) (by show PySem.W.typeIn X.K _ = _; rw [d.kk]; exact e4)
    refine (ps_raiseHC (X := sX X q ((q, oe) :: pn) xe) (p := (q, oe)) (i := i) (n := n) hot (List.mem_cons_self ..) (by show isSubtype oe.cls _ = _; rw [hzn.1]; exact sub_zd) (by rw [d.nn]; exact hi) hln (by show Vis X.env.scope n; rw [d.ss]; exact v1) tkS
      (pmk_own5 PySem.F.excBase_ZeroDivisionError (by show PySem.W.excIn X.K _ _ _ = _; rw [d.kk]; exact e1) (by show X.mg cx = _; rw [d.gg]; exact hmc) (by show PySem.W.keepIn X.K _ = _; rw [d.kk]; exact e2) hr (d.toJC.gl hcx) (d.sC.gl cx hcx).2.2) v2).run pins s _ H M I ⟨?_, ?_⟩
    · have hlen := I.len
      rw [List.length_set] at hlen
      have hN : i < (sX X q ((q, oe) :: pn) xe).N.length := by
        show i < X.N.length
        rw [d.nn]
        exact (List.getElem?_eq_some_iff.mp hi).1
      exact List.getElem?_set_self (by omega)
    · show W (.ref (He.ga K cx)) none ((σ0.set i (some (.ref q))).set i none) H
      rw [List.set_set]
      exact hw
end
/-! ### a def with defaults, all its parameters given, some by name -/
section
variable {P : Program} {w : World} {K : PySem.W.Frag} {mg : Str → Option Value} {base : Heap} {N ps : List Str} {vw : Vw} {k : Nat}
theorem jf_mkFW {x qual : Str} {params : Arguments} {body : List Stmt} {scope : Scope} {dvs : List V} {kws : List (Str × V)} {f : Addr} {fd : FuncData} {tb : TSd} (np : Nat) (ks : List Str) (F : FunD K x qual params body scope dvs kws f fd) (S : FnScope N ps scope) (sC : Sc N scope vw) (mgx : mg x = some (.ref f)) (hr : Room k callerA)
    (hd : dvs ≠ []) (g : {α : Type} → List α → List α → List α) (hg : ∀ {us : List D} {ws : List D}, us.length = np → ws.length = ks.length → (g us ws).length = ps.length)
    (hrel : ∀ {Z S H} {ds zs : List D} {vs ws : List V}, RpL ⟨K, Z⟩ S H ds vs → RpL ⟨K, Z⟩ S H zs ws → ds.length = np → zs.length = ks.length → RpL ⟨K, Z⟩ S H (g ds zs) (g vs ws))
    (hrel2 : ∀ {vs zs : List V} {us ws : List Value}, Vals vs us → Vals zs ws → vs.length = np → zs.length = ks.length → Vals (g vs zs) (g us ws))
    (hb : ∀ (T : Addr) (kV doc pm : Value) (an : Option Addr) (cdv ct : Value) (us ws its : List Value), us.length = np → ws.length = ks.length → its.length = dvs.length →
      ∃ k, bindArgs (PySem.W.fnOf x qual params body scope (.ref T) kV doc pm an cdv ct) ⟨us, ks.zip ws⟩ = seqItems? (.ref T) >>= k ∧ k (some its.toArray) = pure (ps.zip (g us ws)))
    (h : ∀ X W, JD P w K mg base N scope vw k X W → JB X W body tb) : JF P w K mg base x np ks (fun a b => g a b) (k + 1) (fnD ps.length N.length tb) := by
  obtain ⟨oc, od, dV, kV, doc, pm, an, cdv, ct, osl, rfl, lk, hcd, hD, _⟩ := F.ex
  rcases hD with ⟨e, _⟩ | ⟨_, T, o, its, m, rfl, lT, oT, rT⟩
  · exact absurd e hd
  · refine ⟨⟨f, _, ps, fun us ws => if us.length = np ∧ ws.length = ks.length then g us ws else us ++ ws, fun vs ws => if vs.length = np ∧ ws.length = ks.length then g vs ws else vs ++ ws, mgx, F.kp, fnOk_of lk hcd S sC h, ⟨fun s us ws X l1 l2 => ?_, fun {vs us zs ws} r r2 => ?_⟩, fun Z S H ds zs vs ws r r2 l1 l2 => ⟨?_, hg l1 l2⟩⟩, moFn (moS_of S sC hr h)⟩
    · rw [if_pos ⟨l1, l2⟩]
      obtain ⟨k, e1, e2⟩ := hb T kV doc pm an cdv ct us ws its l1 l2 rT.length.symm
      refine BindsTo.of_looks fun M => ?_
      show PySem.W.Looks M s.heap (bindArgs _ ⟨us, ks.zip ws⟩) _
      rw [e1]
      exact looks_items X lT oT (.of_pure e2)
    · by_cases hh : vs.length = np ∧ zs.length = ks.length
      · rw [if_pos hh, if_pos ⟨by rw [← r.length]; exact hh.1, by rw [← r2.length]; exact hh.2⟩]
        exact hrel2 r r2 hh.1 hh.2
      · rw [if_neg hh, if_neg fun z => hh ⟨by rw [r.length]; exact z.1, by rw [r2.length]; exact z.2⟩]
        exact r.append r2
    · show RpL ⟨K, Z⟩ S H (g ds zs) (if vs.length = np ∧ ws.length = ks.length then g vs ws else vs ++ ws)
      rw [if_pos ⟨by rw [← r.length]; exact l1, by rw [← r2.length]; exact l2⟩]
      exact hrel r r2 l1 l2
end
end Bl

namespace K01
open PySem PySem.Spec PyProof.Rows L2 Bl
def top (i : Nat) : Stmt := PySem.Challenge.pw_bendlands_k01_fractions_made.main.body.getD i (.Pass ⟨0, 0, 0, 0⟩)
abbrev nm_common : List Str := ["one", "other"]
abbrev vw_common : Vw := ⟨[0, 1], [0, 1], [], ["abs"]⟩
theorem fs_common : FnScope nm_common ["one", "other"] (defScope (top 9)) := ⟨rfl, rfl, rfl, by decide +kernel, rfl, by decide +kernel, by decide +kernel⟩
theorem sc_common : Sc nm_common (defScope (top 9)) vw_common := scOf (by decide +kernel)
def d_common : He.DefD := ⟨("common", none), "common", "common", defArgs (top 9), defBody (top 9), defScope (top 9), [], []⟩
abbrev nm_frac : List Str := ["top", "bottom", "sign", "e", "by"]
abbrev vw_frac : Vw := ⟨[0, 1, 2, 3, 4], [0, 1, 2, 3, 4], [], ["abs", "ZeroDivisionError", "NoFraction", "common"]⟩
theorem fs_frac : FnScope nm_frac ["top", "bottom"] (defScope (top 10)) := ⟨rfl, rfl, rfl, by decide +kernel, rfl, by decide +kernel, by decide +kernel⟩
theorem sc_frac : Sc nm_frac (defScope (top 10)) vw_frac := scOf (by decide +kernel)
def d_frac : He.DefD := ⟨("frac", none), "frac", "frac", defArgs (top 10), defBody (top 10), defScope (top 10), [.int 1], []⟩
abbrev nm_l_cell_at : List Str := ["_law_script", "_law_k"]
abbrev vw_l_cell_at : Vw := ⟨[0, 1], [0, 1], [], ["len"]⟩
theorem fs_l_cell_at : FnScope nm_l_cell_at ["_law_script", "_law_k"] (defScope (top 12)) := ⟨rfl, rfl, rfl, by decide +kernel, rfl, by decide +kernel, by decide +kernel⟩
theorem sc_l_cell_at : Sc nm_l_cell_at (defScope (top 12)) vw_l_cell_at := scOf (by decide +kernel)
def d_l_cell_at : He.DefD := ⟨("_law_cell_at", none), "_law_cell_at", "_law_cell_at", defArgs (top 12), defBody (top 12), defScope (top 12), [], []⟩
abbrev nm_l_bag : List Str := ["_law_script", "_law_at", "_law_primes", "_law_cell", "_law_mix", "_law_k", "_law_one"]
abbrev vw_l_bag : Vw := ⟨[0, 1, 2, 3, 4, 5, 6], [0, 1, 2, 3, 4, 5, 6], [], ["_law_cell_at", "range"]⟩
theorem fs_l_bag : FnScope nm_l_bag ["_law_script", "_law_at"] (defScope (top 13)) := ⟨rfl, rfl, rfl, by decide +kernel, rfl, by decide +kernel, by decide +kernel⟩
theorem sc_l_bag : Sc nm_l_bag (defScope (top 13)) vw_l_bag := scOf (by decide +kernel)
def d_l_bag : He.DefD := ⟨("_law_bag", none), "_law_bag", "_law_bag", defArgs (top 13), defBody (top 13), defScope (top 13), [], []⟩
abbrev nm_l_take : List Str := ["_law_bag_here", "_law_many", "_law_digit"]
abbrev vw_l_take : Vw := ⟨[0, 1, 2], [0, 1, 2], [], []⟩
theorem fs_l_take : FnScope nm_l_take ["_law_bag_here", "_law_many"] (defScope (top 14)) := ⟨rfl, rfl, rfl, by decide +kernel, rfl, by decide +kernel, by decide +kernel⟩
theorem sc_l_take : Sc nm_l_take (defScope (top 14)) vw_l_take := scOf (by decide +kernel)
def d_l_take : He.DefD := ⟨("_law_take", none), "_law_take", "_law_take", defArgs (top 14), defBody (top 14), defScope (top 14), [], []⟩
abbrev nm_l_whole : List Str := ["_law_thing"]
abbrev vw_l_whole : Vw := ⟨[0], [0], [], ["isinstance", "int", "bool"]⟩
theorem fs_l_whole : FnScope nm_l_whole ["_law_thing"] (defScope (top 15)) := ⟨rfl, rfl, rfl, by decide +kernel, rfl, by decide +kernel, by decide +kernel⟩
theorem sc_l_whole : Sc nm_l_whole (defScope (top 15)) vw_l_whole := scOf (by decide +kernel)
def d_l_whole : He.DefD := ⟨("_law_whole", none), "_law_whole", "_law_whole", defArgs (top 15), defBody (top 15), defScope (top 15), [], []⟩
abbrev nm_l_low : List Str := ["_law_one", "_law_other", "_law_least", "_law_by"]
abbrev vw_l_low : Vw := ⟨[0, 1, 2, 3], [0, 1, 2, 3], [], ["abs"]⟩
theorem fs_l_low : FnScope nm_l_low ["_law_one", "_law_other"] (defScope (top 16)) := ⟨rfl, rfl, rfl, by decide +kernel, rfl, by decide +kernel, by decide +kernel⟩
theorem sc_l_low : Sc nm_l_low (defScope (top 16)) vw_l_low := scOf (by decide +kernel)
def d_l_low : He.DefD := ⟨("_law_low", none), "_law_low", "_law_low", defArgs (top 16), defBody (top 16), defScope (top 16), [], []⟩
abbrev nm_l_refused : List Str := ["_law_first", "e", "_law_others"]
abbrev vw_l_refused : Vw := ⟨[0, 1, 2], [0, 1, 2], [], ["frac", "NoFraction", "isinstance", "Full", "Hidden", "LandError", "NoNumber", "NoSpoke", "Undone", "ZeroDivisionError"]⟩
theorem fs_l_refused : FnScope nm_l_refused ["_law_first"] (defScope (top 20)) := ⟨rfl, rfl, rfl, by decide +kernel, rfl, by decide +kernel, by decide +kernel⟩
theorem sc_l_refused : Sc nm_l_refused (defScope (top 20)) vw_l_refused := scOf (by decide +kernel)
def d_l_refused : He.DefD := ⟨("_law_refused", none), "_law_refused", "_law_refused", defArgs (top 20), defBody (top 20), defScope (top 20), [], []⟩
abbrev nm_law : List Str := ["_law_script", "_law_k", "_law_bag_here", "_law_numbers", "_law_turn", "_law_most", "_law_first", "_law_second", "_law_told"]
abbrev vw_law : Vw := ⟨[0, 1, 2, 3, 4, 5, 6, 7, 8], [0, 1, 2, 3, 4, 5, 6, 7, 8], [], ["range", "min", "len", "_law_bag", "_law_take", "_law_refused", "frac", "_law_low", "isinstance", "tuple", "_law_whole"]⟩
theorem fs_law : FnScope nm_law ["_law_script"] (defScope (top 21)) := ⟨rfl, rfl, rfl, by decide +kernel, rfl, by decide +kernel, by decide +kernel⟩
theorem sc_law : Sc nm_law (defScope (top 21)) vw_law := scOf (by decide +kernel)
def d_law : He.DefD := ⟨("law", none), "law", "law", defArgs (top 21), defBody (top 21), defScope (top 21), [], []⟩
def fn : List He.DefD := [d_common, d_frac, d_l_cell_at, d_l_bag, d_l_take, d_l_whole, d_l_low, d_l_refused, d_law]
def fa : List He.Fa := [.free "range", .free "min", .free "len", .glo "_law_bag", .glo "_law_take", .glo "_law_refused", .glo "frac", .glo "_law_low", .free "isinstance", .free "tuple", .glo "_law_whole", .free "abs", .free "ZeroDivisionError", .glo "NoFraction", .glo "common", .glo "_law_cell_at", .free "int", .free "bool", .glo "Undone", .glo "NoSpoke", .glo "NoNumber", .glo "LandError", .glo "Hidden", .glo "Full", .exm "NoFraction" "NoFraction" true, .glo "law"]
def bxl : List (PySem.W.Frag → Bool) := [fun K => excZB K "NoFraction", fun K => excCB K (He.ga K "NoFraction"), fun K => kitB K "NoFraction" ["Full", "Hidden", "LandError", "NoNumber", "NoSpoke", "Undone"] false, fun K => kit1B K "NoFraction" "ZeroDivisionError" true]
def bx : PySem.W.Frag → Bool := fun K => bxl.all fun f => f K
def names0 : List PySem.Str := ["LandError", "NoFraction", "NoNumber", "NoSpoke", "Full", "Hidden", "Undone", "common", "frac", "_law_cell_at", "_law_bag", "_law_take", "_law_whole", "_law_low", "_law_plus", "_law_minus", "_law_times", "_law_refused"]
def names : List PySem.Str := names0
abbrev R : PySem.W.OpenRow := PySem.W.OpenLaw.row PySem.Challenge.rw_bendlands_k01_fractions_made
abbrev hk : PySem.W.Hook := hookX 5 fa fn bx
theorem run (w : World) : HandSHeadRun.RunEq R (PySem.W.view R.prog [21]) hk (obX 5 fa fn bx) 6000 names w := by
  intro os
  kernel_rfl
end K01

namespace Lb
open PySem PySem.Spec PyProof.Rows L2 Bl
def t_common : TSd := sSeq (sPar [0, 1] (aCons (dB bAbs (aCons (vr 0) (aNil))) (aCons (dB bAbs (aCons (vr 1) (aNil))) (aNil)))) (sSeq (sWhile (tbl (dTwo (vr 1) (cn (.int 0)) fNe)) (sPar [0, 1] (aCons (vr 1) (aCons (dTwo (vr 0) (vr 1) fMod) (aNil))))) (sRet (vr 0)))
def m_common : TFd := fnD 2 2 t_common
def t_l_cell_at : TSd := sSeq (sIf (tbl (dTwo (vr 1) (dB bLen (aCons (vr 0) (aNil))) fLt)) (sRet (dTwo (vr 0) (vr 1) fIx)) (sNx)) (sRet (cn (.int 0)))
def m_l_cell_at : TFd := fnD 2 2 t_l_cell_at
def t_l_bag : TSd := sSeq (sAsg (dTup (aCons (cn (.int 99991)) (aCons (cn (.int 99971)) (aCons (cn (.int 99961)) (aCons (cn (.int 99929)) (aCons (cn (.int 99923)) (aCons (cn (.int 99907)) (aCons (cn (.int 99901)) (aCons (cn (.int 99881)) (aCons (cn (.int 99877)) (aNil))))))))))) (.nm 2)) (sSeq (sAsg (dCall m_l_cell_at 2 0 (fun ds _ => ds) (aCons (vr 0) (aCons (vr 1) (aNil))) aNil) (.nm 3)) (sSeq (sAsg (dTwo (dTwo (cn (.int 7919)) (vr 1) fMul) (cn (.int 29)) fAdd) (.nm 4)) (sSeq (sFor (iR1 (aCons (cn (.int 9)) (aNil))) (.nm 5) (sSeq (sAsg (dTwo (dTwo (dTwo (dCall m_l_cell_at 2 0 (fun ds _ => ds) (aCons (vr 0) (aCons (dTwo (vr 1) (vr 5) fAdd) (aNil))) aNil) (dTwo (cn (.int 10)) (cn (.int 18)) fPow) fMod) (dTwo (cn (.int 11)) (vr 5) fMul) fAdd) (cn (.int 1)) fAdd) (.nm 6)) (sAsg (dTwo (dTwo (dTwo (vr 4) (cn (.int 48271)) fMul) (dTwo (dTwo (vr 6) (cn (.int 3)) fPow) (dTwo (vr 2) (vr 5) fIx) fMod) fAdd) (cn (.int 2147483629)) fMod) (.nm 4)))) (sSeq (sIf (tbl (dTwo (vr 3) (dTwo (cn (.int 10)) (cn (.int 18)) fPow) fLt)) (sAsg (cn (.int 0)) (.nm 3)) (sNx)) (sRet (dLstR (aCons (vr 3) (aCons (dTwo (vr 4) (cn (.int 1)) fAdd) (aNil)))))))))
def m_l_bag : TFd := fnD 2 7 t_l_bag
def t_l_take : TSd := sSeq (sIf (tbl (dTwo (dTwo (vr 0) (cn (.int 0)) fIx) (cn (.int 0)) fGt)) (sSeq (sAsg (dTwo (dTwo (vr 0) (cn (.int 0)) fIx) (vr 1) fMod) (.nm 2)) (sSeq (sSub (dTwo (dTwo (vr 0) (cn (.int 0)) fIx) (vr 1) fDiv) (vr 0) (cn (.int 0))) (sRet (vr 2)))) (sNx)) (sSeq (sSub (dTwo (dTwo (dTwo (vr 0) (cn (.int 1)) fIx) (cn (.int 48271)) fMul) (cn (.int 2147483647)) fMod) (vr 0) (cn (.int 1))) (sRet (dTwo (dTwo (dTwo (dTwo (dTwo (vr 0) (cn (.int 1)) fIx) (cn (.int 3)) fPow) (cn (.int 2147483629)) fMod) (cn (.int 1000003)) fMod) (vr 1) fMod)))
def m_l_take : TFd := fnD 2 3 t_l_take
def t_l_whole : TSd := sRet (eIf (tbl (dIsi "int" (vr 0))) (vNot (dIsi "bool" (vr 0))) (cn (.bl false)))
def m_l_whole : TFd := fnD 1 1 t_l_whole
theorem e_l_whole {a0 : D} {S : Sto} {Q : DK} {E : EK} (k : t_l_whole [some a0] S ⟨fun _ S1 => Q .non S1, Q, fun _ _ => False, fun _ _ => False, fun x _ S1 => E x S1⟩) : m_l_whole [a0] S Q E := ⟨rfl, k⟩
def t_l_low : TSd := sSeq (sIf (tbl (dTwo (vr 1) (cn (.int 0)) fLt)) (sPar [0, 1] (aCons (dTwo (cn (.int 0)) (vr 0) fSub) (aCons (dTwo (cn (.int 0)) (vr 1) fSub) (aNil)))) (sNx)) (sSeq (sPar [2, 3] (aCons (dB bAbs (aCons (vr 0) (aNil))) (aCons (vr 1) (aNil)))) (sSeq (sWhile (tbl (dTwo (vr 2) (cn (.int 0)) fGt)) (sPar [2, 3] (aCons (dTwo (vr 3) (vr 2) fMod) (aCons (vr 2) (aNil))))) (sRet (dTup (aCons (dTwo (vr 0) (vr 3) fDiv) (aCons (dTwo (vr 1) (vr 3) fDiv) (aNil)))))))
def m_l_low : TFd := fnD 2 4 t_l_low
end Lb

namespace Lb
open PySem PySem.Spec PyProof.Rows L2 Bl
/-! ### how great -/
def sm (n : Nat) (i : Int) : Prop := i.natAbs < 2 ^ n
theorem sm.mono {m n : Nat} {i : Int} (h : sm m i) (l : m ≤ n) : sm n i := Nat.lt_of_lt_of_le h (Nat.pow_le_pow_right (by decide) l)
theorem sm.mul {m n : Nat} {i j : Int} (a : sm m i) (b : sm n j) : sm (m + n) (i * j) := by
  unfold sm at *
  rw [Int.natAbs_mul, Nat.pow_add]
  exact Nat.mul_lt_mul'' a b
theorem sm.add {n : Nat} {i j : Int} (a : sm n i) (b : sm n j) : sm (n + 1) (i + j) := by
  unfold sm at *
  have h := Int.natAbs_add_le i j
  rw [Nat.pow_succ]
  omega
theorem sm.sub {n : Nat} {i j : Int} (a : sm n i) (b : sm n j) : sm (n + 1) (i - j) := by
  unfold sm at *
  rw [Nat.pow_succ]
  omega
theorem sm.neg {n : Nat} {i : Int} (a : sm n i) : sm n (-i) := by unfold sm at *; omega
theorem sm.of {n : Nat} {i : Int} (h : i.natAbs < 2 ^ n) : sm n i := h
theorem log2_le {n k : Nat} (h : n < 2 ^ k) : n.log2 ≤ k := by
  by_cases h0 : n = 0
  · subst h0; simp
  · exact Nat.le_of_lt ((Nat.log2_lt h0).mpr h)
theorem sm.cmul {m n : Nat} {i j : Int} (a : sm m i) (b : sm n j) (h : m + n < 1000000) : CMul' i j := by
  have h1 := log2_le a
  have h2 := log2_le b
  unfold CMul'
  omega
theorem sm.cdiv {n : Nat} {j : Int} (a : sm n j) (h0 : j ≠ 0) (h : n ≤ 9000) : CDiv' j := ⟨h0, Nat.lt_of_lt_of_le ((Nat.log2_lt (by omega)).mpr a) h⟩
theorem sm.bits {n : Nat} {j : Int} (a : sm n j) : Builtin.Int.intBits j ≤ n + 1 := by
  unfold Builtin.Int.intBits
  split
  · omega
  · have := log2_le a
    omega
/-! ### fractions -/
abbrev fr (r : Rat) : D := .tup [.int r.num, .int r.den]
structure sr (k : Nat) (r : Rat) : Prop where
  n : sm k r.num
  d : sm k r.den
theorem sr.mono {m n : Nat} {r : Rat} (h : sr m r) (l : m ≤ n) : sr n r := ⟨h.n.mono l, h.d.mono l⟩
theorem den_pos (r : Rat) : (0 : Int) < r.den := by have := r.den_pos; omega
theorem den_ne (r : Rat) : (r.den : Int) ≠ 0 := by have := r.den_pos; omega
theorem castne {q : Int} (h : q ≠ 0) : (q : Rat) ≠ 0 := fun z => h (Rat.intCast_eq_zero_iff.mp z)
/-- a fraction's parts, of any two whole numbers that make it -/
theorem low_of {p q : Int} {r : Rat} (hq : q ≠ 0) (h : r * q = p) : ∃ t : Int, t = q.sign * (Int.gcd p q) ∧ t ≠ 0 ∧ p = r.num * t ∧ q = r.den * t := by
  have e : r = Rat.divInt p q := by
    rw [Rat.divInt_eq_div, ← h, Rat.mul_div_cancel (castne hq)]
  have g0 : 0 < Int.gcd p q := Int.gcd_pos_of_ne_zero_right _ hq
  have gp : (Int.gcd p q : Int) ∣ p := Int.gcd_dvd_left ..
  have gq : (Int.gcd p q : Int) ∣ q := Int.gcd_dvd_right ..
  have ss : q.sign * q.sign = 1 := by
    rcases Int.lt_or_gt_of_ne hq with z | z
    · rw [Int.sign_eq_neg_one_of_neg z]; rfl
    · rw [Int.sign_eq_one_of_pos z]; rfl
  have sq : q.sign * q = q.natAbs := by
    rcases Int.lt_or_gt_of_ne hq with z | z
    · rw [Int.sign_eq_neg_one_of_neg z]; omega
    · rw [Int.sign_eq_one_of_pos z]; omega
  refine ⟨_, rfl, ?_, ?_, ?_⟩
  · intro z
    rcases Int.mul_eq_zero.mp z with z | z
    · rw [z] at ss; cases ss
    · omega
  · rw [e, Rat.num_divInt, Int.gcd_comm q p]
    have g1 : (Int.gcd p q : Int) ≠ 0 := by omega
    clear e sq gq
    obtain ⟨p', hp⟩ := gp
    generalize (Int.gcd p q : Int) = g at *
    have e1 : q.sign * p = g * (q.sign * p') := by rw [hp]; grind
    rw [e1, Int.mul_ediv_cancel_left _ g1, hp]
    grind
  · rw [e, Rat.den_divInt, if_neg hq, Int.gcd_comm q p, Int.natCast_ediv, ← sq]
    have g1 : (Int.gcd p q : Int) ≠ 0 := by omega
    clear e sq gp
    obtain ⟨q', hq'⟩ := gq
    generalize (Int.gcd p q : Int) = g at *
    generalize q.sign = s at *
    have e1 : s * q = g * (s * q') := by rw [hq']; grind
    rw [e1, Int.mul_ediv_cancel_left _ g1, hq']
    grind
theorem low_sm {p q : Int} {r : Rat} {n m : Nat} (hq : q ≠ 0) (h : r * q = p) (hp : sm n p) (hs : sm m q) : sm n r.num ∧ sm m r.den := by
  obtain ⟨t, _, t0, e1, e2⟩ := low_of hq h
  unfold sm at *
  have t1 : 1 ≤ t.natAbs := by omega
  constructor
  · rw [e1, Int.natAbs_mul] at hp
    exact Nat.lt_of_le_of_lt (Nat.le_mul_of_pos_right _ t1) hp
  · rw [e2, Int.natAbs_mul] at hs
    exact Nat.lt_of_le_of_lt (Nat.le_mul_of_pos_right _ t1) hs
theorem num_den (r : Rat) : r * (r.den : Int) = (r.num : Int) := by
  have h := Rat.num_divInt_den r
  rw [Rat.divInt_eq_div] at h
  have z := Rat.div_mul_cancel (a := (r.num : Rat)) (b := ((r.den : Int) : Rat)) (castne (den_ne r))
  rw [h] at z
  exact z
theorem sr.add {m n : Nat} {a b : Rat} (ha : sr m a) (hb : sr n b) : sr (m + n + 1) (a + b) := by
  have z := low_sm (p := a.num * b.den + b.num * a.den) (q := a.den * b.den) (r := a + b) (n := m + n + 1) (m := m + n) (Int.mul_ne_zero (den_ne a) (den_ne b)) (by
    have e1 := num_den a
    have e2 := num_den b
    simp only [Rat.intCast_mul, Rat.intCast_add]
    grind) (.add (ha.n.mul hb.d) ((hb.n.mul ha.d).mono (by omega))) (ha.d.mul hb.d)
  exact ⟨z.1, z.2.mono (by omega)⟩
theorem sr.neg {m : Nat} {a : Rat} (ha : sr m a) : sr m (-a) := ⟨by rw [Rat.neg_num]; exact ha.n.neg, by rw [Rat.neg_den]; exact ha.d⟩
theorem sr.mul {m n : Nat} {a b : Rat} (ha : sr m a) (hb : sr n b) : sr (m + n) (a * b) := by
  have z := low_sm (p := a.num * b.num) (q := a.den * b.den) (r := a * b) (n := m + n) (m := m + n) (Int.mul_ne_zero (den_ne a) (den_ne b)) (by
    have e1 := num_den a
    have e2 := num_den b
    simp only [Rat.intCast_mul, Rat.intCast_add]
    grind) (ha.n.mul hb.n) (ha.d.mul hb.d)
  exact ⟨z.1, z.2⟩
theorem sr.int {m : Nat} {i : Int} (h : sm m i) (h0 : 0 < m) : sr m (i : Rat) := ⟨h, by show (1 : Int).natAbs < 2 ^ m; have : 2 ^ 1 ≤ 2 ^ m := Nat.pow_le_pow_right (by decide) h0; omega⟩
theorem sr.zero {m : Nat} : sr (m + 1) 0 := ⟨by show (0 : Int).natAbs < _; exact Nat.pow_pos (by decide), by show (1 : Int).natAbs < 2 ^ (m + 1); have : 0 < 2 ^ m := Nat.pow_pos (by decide); rw [Nat.pow_succ]; omega⟩
/-! ### the greatest whole number whose square is no greater -/
def isq : Nat → Nat
  | 0 => 0
  | n + 1 => if (isq n + 1) * (isq n + 1) ≤ n + 1 then isq n + 1 else isq n
/-- a fraction's root, if it is a fraction times itself -/
def sqb (q : Rat) : Prop := ((isq q.num.toNat : Int) * isq q.num.toNat = q.num) ∧ ((isq q.den : Int) * isq q.den = q.den)
instance (q : Rat) : Decidable (sqb q) := by unfold sqb; infer_instance
end Lb

namespace Lb
open PySem PySem.Spec PyProof.Rows L2 Bl
theorem atI_0 {α : Type} {x : α} {l : List α} : atI (x :: l) 0 = some x := by
  unfold atI ixN
  simp
theorem atI_1 {α : Type} {x y : α} {l : List α} : atI (x :: y :: l) 1 = some y := atI_nat (j := 1) rfl
theorem atI_2 {α : Type} {x y z : α} {l : List α} : atI (x :: y :: z :: l) 2 = some z := atI_nat (j := 2) rfl
section
variable {i j : Int} {a b : List D} {S : Sto} {Q : DK} {P : Bool → Sto → Prop} {r : Addr} {x : Str} {c : Bool}
theorem truD_bl : truD (.bl c) S P = P c S := rfl
theorem truD_int : truD (.int i) S P = P (i != 0) S := rfl
theorem truD_non : truD .non S P = P false S := rfl
theorem truD_tup : truD (.tup a) S P = P (!a.isEmpty) S := rfl
theorem truD_lst : truD (.lst a) S P = P (!a.isEmpty) S := rfl
theorem truD_str : truD (.str x) S P = (x.length ≤ sizeLine ∧ P ((x.length : Int) != 0) S) := rfl
theorem truD_ref : truD (.ref r) S P = match S r with | some ds => P (!ds.isEmpty) S | none => False := rfl
theorem fAdd_int : fAdd (.int i) (.int j) S Q = Q (.int (i + j)) S := rfl
theorem fAdd_tup : fAdd (.tup a) (.tup b) S Q = (a.length + b.length ≤ sizeLine ∧ Q (.tup (a ++ b)) S) := rfl
theorem fIx_tup : fIx (.tup a) (.int i) S Q = match atI a i with | some d => Q d S | none => False := rfl
theorem fIx_lst : fIx (.lst a) (.int i) S Q = match atI a i with | some d => Q d S | none => False := rfl
theorem fIx_ref : fIx (.ref r) (.int i) S Q = match S r with | some ds => (match atI ds i with | some d => Q d S | none => False) | none => False := rfl
theorem bLen_tup : bLen [.tup a] S Q = Q (.int a.length) S := rfl
theorem bLen_lst : bLen [.lst a] S Q = Q (.int a.length) S := rfl
theorem bLen_ref : bLen [.ref r] S Q = match S r with | some xs => Q (.int xs.length) S | none => False := rfl
theorem bInt_int : bInt [.int i] S Q = Q (.int i) S := rfl
theorem bInt_bl : bInt [.bl c] S Q = Q (.int (if c then 1 else 0)) S := rfl
end
theorem ix20 : ixN 2 0 = some 0 := rfl
theorem ix21 : ixN 2 1 = some 1 := rfl
/-! ### the two tellings of gcd -/
theorem gcd_step {x y : Int} (hx : 0 < x) (hy : 0 ≤ y) : 0 ≤ y.fmod x ∧ y.fmod x < x ∧ Int.gcd (y.fmod x) x = Int.gcd x y := by
  have e : y.fmod x = y % x := Int.fmod_eq_emod_of_nonneg _ (by omega)
  rw [e]
  exact ⟨Int.emod_nonneg _ (by omega), Int.emod_lt_of_pos _ hx, by unfold Int.gcd; rw [Int.natAbs_emod_of_nonneg hy]; exact (Nat.gcd_rec x.natAbs y.natAbs).symm⟩
theorem fdiv_mul {a t : Int} (h : t ≠ 0) : (a * t).fdiv t = a := Int.mul_fdiv_cancel _ h
theorem sm.abs {n : Nat} {p : Int} (h : sm n p) : sm n (if p < 0 then -p else p) := by
  split
  · exact h.neg
  · exact h
theorem low_loop {p q : Int} {n : Nat} {r : Rat} {S : Sto} {N : Nd} (hq : 0 < q) (hp : sm n p) (hs : sm n q) (hn : n ≤ 8900) (h : r * q = p) (k : N.rt (fr r) S) :
    sSeq (sWhile (tbl (dTwo (vr 2) (cn (.int 0)) fGt)) (sPar [2, 3] (aCons (dTwo (vr 3) (vr 2) fMod) (aCons (vr 2) (aNil))))) (sRet (dTup (aCons (dTwo (vr 0) (vr 3) fDiv) (aCons (dTwo (vr 1) (vr 3) fDiv) (aNil)))))
      [some (.int p), some (.int q), some (.int (if p < 0 then -p else p)), some (.int q)] S N := by
  obtain ⟨t, et, t0, e1, e2⟩ := low_of (by omega) h
  rw [Int.sign_eq_one_of_pos hq, Int.one_mul] at et
  simp only [fnD, sNx, sSeq, sRet, sRetN, sDrop, sIf, sBrk, sCnt, sAsg, sPar, sAug, sSub, setD, sThru, asgT, asgL, itemsOf, vr, cn, dTwo, tbl, ttr, truD_bl, truD_int, truD_non, truD_tup, truD_lst, truD_str, truD_ref, tAndD, tOrD, tNotD, vOf, eIf, vNot, dNeg, fAdd_int, fAdd_tup, fSub, fMul, fDiv, fMod, fPow, fShl, fLt, fLe, fGt, fGe, fEq, fNe, fIx_tup, fIx_lst, fIx_ref, aNil, aCons, dTup, dLst, dLstR, dB, bAbs, bLen_tup, bLen_lst, bLen_ref, bMax, bMin, bInt_int, bInt_bl, dBits, dCall, iVal, iR1, iR2, List.map_cons, List.map_nil, List.length_cons, List.length_nil, List.replicate, List.cons_append, List.nil_append, List.append_nil, List.set, List.getElem?_cons_zero, List.getElem?_cons_succ, List.getElem?_nil, atI_0, atI_1, atI_2, ix20, ix21, sup_same, Nat.reduceAdd, Nat.reduceSub, Nat.succ_eq_add_one, decide_eq_true_eq, Bool.not_eq_true', decide_eq_false_iff_not, true_and, and_true, Bool.true_eq_false, Bool.false_eq_true, if_true, if_false, reduceCtorEq]
  refine ⟨fun m e s => ∃ x y : Int, e = [some (.int p), some (.int q), some (.int x), some (.int y)] ∧ s = S ∧ 0 ≤ x ∧ 0 < y ∧ sm n x ∧ sm n y ∧ (Int.gcd x y : Int) = t ∧ m = x.toNat, ⟨_, _, q, rfl, rfl, by split <;> omega, hq, hp.abs, hs, ?_, rfl⟩, ?_⟩
  · rw [et]
    split
    · rw [Int.neg_gcd]
    · rfl
  · rintro m e s ⟨x, y, rfl, rfl, hx, hy, hxs, hys, hg, rfl⟩
    simp only [fnD, sNx, sSeq, sRet, sRetN, sDrop, sIf, sBrk, sCnt, sAsg, sPar, sAug, sSub, setD, sThru, asgT, asgL, itemsOf, vr, cn, dTwo, tbl, ttr, truD_bl, truD_int, truD_non, truD_tup, truD_lst, truD_str, truD_ref, tAndD, tOrD, tNotD, vOf, eIf, vNot, dNeg, fAdd_int, fAdd_tup, fSub, fMul, fDiv, fMod, fPow, fShl, fLt, fLe, fGt, fGe, fEq, fNe, fIx_tup, fIx_lst, fIx_ref, aNil, aCons, dTup, dLst, dLstR, dB, bAbs, bLen_tup, bLen_lst, bLen_ref, bMax, bMin, bInt_int, bInt_bl, dBits, dCall, iVal, iR1, iR2, List.map_cons, List.map_nil, List.length_cons, List.length_nil, List.replicate, List.cons_append, List.nil_append, List.append_nil, List.set, List.getElem?_cons_zero, List.getElem?_cons_succ, List.getElem?_nil, atI_0, atI_1, atI_2, ix20, ix21, sup_same, Nat.reduceAdd, Nat.reduceSub, Nat.succ_eq_add_one, decide_eq_true_eq, Bool.not_eq_true', decide_eq_false_iff_not, true_and, and_true, Bool.true_eq_false, Bool.false_eq_true, if_true, if_false, reduceCtorEq]
    split
    · rename_i hx0
      obtain ⟨g1, g2, g3⟩ := gcd_step hx0 (show 0 ≤ y by omega)
      exact ⟨by omega, (y.fmod x).toNat, by omega, _, x, rfl, g1, hx0, by unfold sm at *; omega, hxs, by rw [g3]; exact hg, rfl⟩
    · have hx1 : x = 0 := by omega
      subst hx1
      rw [Int.gcd_zero_left] at hg
      have hy2 : y = t := by omega
      subst hy2
      have hd : CDiv' y := hys.cdiv (by omega) (by omega)
      refine ⟨hd, hd, by decide, ?_⟩
      have d1 : p.fdiv y = r.num := by rw [e1, fdiv_mul t0]
      have d2 : q.fdiv y = r.den := by rw [e2, fdiv_mul t0]
      rw [d1, d2]
      exact k
theorem low_spec {p q : Int} {n : Nat} {r : Rat} {S : Sto} {Q : DK} {E : EK} (hq : q ≠ 0) (hp : sm n p) (hs : sm n q) (hn : n ≤ 8900) (h : r * q = p) (k : Q (fr r) S) : m_l_low [.int p, .int q] S Q E := by
  unfold m_l_low t_l_low
  by_cases hq0 : q < 0
  · have z := low_loop (p := 0 - p) (q := 0 - q) (n := n) (r := r) (S := S) (N := ⟨fun _ S1 => Q .non S1, Q, fun _ _ => False, fun _ _ => False, fun x _ S1 => E x S1⟩) (by omega) (by unfold sm at *; omega) (by unfold sm at *; omega) hn (by
      simp only [Rat.intCast_sub]
      grind) k
    simp only [fnD, sNx, sSeq, sRet, sRetN, sDrop, sIf, sBrk, sCnt, sAsg, sPar, sAug, sSub, setD, sThru, asgT, asgL, itemsOf, vr, cn, dTwo, tbl, ttr, truD_bl, truD_int, truD_non, truD_tup, truD_lst, truD_str, truD_ref, tAndD, tOrD, tNotD, vOf, eIf, vNot, dNeg, fAdd_int, fAdd_tup, fSub, fMul, fDiv, fMod, fPow, fShl, fLt, fLe, fGt, fGe, fEq, fNe, fIx_tup, fIx_lst, fIx_ref, aNil, aCons, dTup, dLst, dLstR, dB, bAbs, bLen_tup, bLen_lst, bLen_ref, bMax, bMin, bInt_int, bInt_bl, dBits, dCall, iVal, iR1, iR2, List.map_cons, List.map_nil, List.length_cons, List.length_nil, List.replicate, List.cons_append, List.nil_append, List.append_nil, List.set, List.getElem?_cons_zero, List.getElem?_cons_succ, List.getElem?_nil, atI_0, atI_1, atI_2, ix20, ix21, sup_same, Nat.reduceAdd, Nat.reduceSub, Nat.succ_eq_add_one, decide_eq_true_eq, Bool.not_eq_true', decide_eq_false_iff_not, true_and, and_true, Bool.true_eq_false, Bool.false_eq_true, if_true, if_false, reduceCtorEq] at z ⊢
    rw [if_pos hq0]
    exact z
  · have z := low_loop (p := p) (q := q) (n := n) (r := r) (S := S) (N := ⟨fun _ S1 => Q .non S1, Q, fun _ _ => False, fun _ _ => False, fun x _ S1 => E x S1⟩) (by omega) hp hs hn h k
    simp only [fnD, sNx, sSeq, sRet, sRetN, sDrop, sIf, sBrk, sCnt, sAsg, sPar, sAug, sSub, setD, sThru, asgT, asgL, itemsOf, vr, cn, dTwo, tbl, ttr, truD_bl, truD_int, truD_non, truD_tup, truD_lst, truD_str, truD_ref, tAndD, tOrD, tNotD, vOf, eIf, vNot, dNeg, fAdd_int, fAdd_tup, fSub, fMul, fDiv, fMod, fPow, fShl, fLt, fLe, fGt, fGe, fEq, fNe, fIx_tup, fIx_lst, fIx_ref, aNil, aCons, dTup, dLst, dLstR, dB, bAbs, bLen_tup, bLen_lst, bLen_ref, bMax, bMin, bInt_int, bInt_bl, dBits, dCall, iVal, iR1, iR2, List.map_cons, List.map_nil, List.length_cons, List.length_nil, List.replicate, List.cons_append, List.nil_append, List.append_nil, List.set, List.getElem?_cons_zero, List.getElem?_cons_succ, List.getElem?_nil, atI_0, atI_1, atI_2, ix20, ix21, sup_same, Nat.reduceAdd, Nat.reduceSub, Nat.succ_eq_add_one, decide_eq_true_eq, Bool.not_eq_true', decide_eq_false_iff_not, true_and, and_true, Bool.true_eq_false, Bool.false_eq_true, if_true, if_false, reduceCtorEq] at z ⊢
    rw [if_neg hq0]
    exact z
/-! ### the drawn numbers -/
def Bg (S : Sto) (a : Addr) : Prop := ∃ c m : Int, S a = some [.int c, .int m] ∧ 0 ≤ c ∧ 0 ≤ m ∧ m < 2147483648
def Fr (S S' : Sto) (a : Addr) : Prop := ∀ b, b ≠ a → S' b = S b
theorem Fr.refl (S : Sto) (a : Addr) : Fr S S a := fun _ _ => rfl
theorem Fr.trans {S S1 S2 : Sto} {a : Addr} (h : Fr S S1 a) (k : Fr S1 S2 a) : Fr S S2 a := fun b hb => (k b hb).trans (h b hb)
theorem Fr.sup {S : Sto} {a : Addr} {ds : List D} : Fr S (sup S a ds) a := fun b hb => sup_ne hb
theorem fmod_pos {a b : Int} (h : 0 < b) : 0 ≤ a.fmod b ∧ a.fmod b < b := by
  rw [Int.fmod_eq_emod_of_nonneg _ (by omega)]
  exact ⟨Int.emod_nonneg _ (by omega), Int.emod_lt_of_pos _ h⟩
theorem fdiv_nonneg {a b : Int} (h : 0 < b) (ha : 0 ≤ a) : 0 ≤ a.fdiv b := by
  rw [Int.fdiv_eq_ediv_of_nonneg _ (by omega)]
  exact Int.ediv_nonneg ha (by omega)
theorem take_spec {a : Addr} {many : Int} {S : Sto} {Q : DK} {E : EK} (hb : Bg S a) (h0 : 0 < many) (h1 : sm 9000 many) (k : ∀ d S', 0 ≤ d → d < many → Bg S' a → Fr S S' a → Q (.int d) S') : m_l_take [.ref a, .int many] S Q E := by
  obtain ⟨c, m, e, hc, hm, hm2⟩ := hb
  unfold m_l_take t_l_take
  simp only [e, fnD, sNx, sSeq, sRet, sRetN, sDrop, sIf, sBrk, sCnt, sAsg, sPar, sAug, sSub, setD, sThru, asgT, asgL, itemsOf, vr, cn, dTwo, tbl, ttr, truD_bl, truD_int, truD_non, truD_tup, truD_lst, truD_str, truD_ref, tAndD, tOrD, tNotD, vOf, eIf, vNot, dNeg, fAdd_int, fAdd_tup, fSub, fMul, fDiv, fMod, fPow, fShl, fLt, fLe, fGt, fGe, fEq, fNe, fIx_tup, fIx_lst, fIx_ref, aNil, aCons, dTup, dLst, dLstR, dB, bAbs, bLen_tup, bLen_lst, bLen_ref, bMax, bMin, bInt_int, bInt_bl, dBits, dCall, iVal, iR1, iR2, List.map_cons, List.map_nil, List.length_cons, List.length_nil, List.replicate, List.cons_append, List.nil_append, List.append_nil, List.set, List.getElem?_cons_zero, List.getElem?_cons_succ, List.getElem?_nil, atI_0, atI_1, atI_2, ix20, ix21, sup_same, Nat.reduceAdd, Nat.reduceSub, Nat.succ_eq_add_one, decide_eq_true_eq, Bool.not_eq_true', decide_eq_false_iff_not, true_and, and_true, Bool.true_eq_false, Bool.false_eq_true, if_true, if_false, reduceCtorEq]
  split
  · rename_i hc0
    exact ⟨by omega, h1.cdiv (by omega) (by omega), k _ _ (fmod_pos h0).1 (fmod_pos h0).2 ⟨_, _, sup_same, fdiv_nonneg h0 hc, hm, hm2⟩ Fr.sup⟩
  · have g := fmod_pos (a := m * 48271) (b := 2147483647) (by omega)
    refine ⟨(sm.of (n := 32) (by omega)).cmul (sm.of (n := 32) (by decide)) (by decide), by decide, by decide, ?_, by decide, by decide, by omega, k _ _ (fmod_pos h0).1 (fmod_pos h0).2 ⟨_, _, sup_same, hc, g.1, by omega⟩ Fr.sup⟩
    have z := (sm.of (n := 31) (i := (m * 48271).fmod 2147483647) (by omega)).bits
    omega
theorem sm_k {i : Int} (h : i.natAbs < 2 ^ 8) : sm 9000 i := sm.mono (m := 8) h (by decide)
def rabs (r : Rat) : Rat := if r.num < 0 then -r else r
theorem rabs_num (r : Rat) : (rabs r).num = if r.num < 0 then -r.num else r.num := by
  unfold rabs
  split
  · rfl
  · rfl
theorem rabs_den (r : Rat) : (rabs r).den = r.den := by
  unfold rabs
  split <;> rfl
theorem sr.abs {n : Nat} {r : Rat} (h : sr n r) : sr n (rabs r) := ⟨by rw [rabs_num]; exact h.n.abs, by rw [rabs_den]; exact h.d⟩
/-! ### roots of whole numbers -/
theorem eq_int (i j : Int) : eqD (.int i) (.int j) = decide (i = j) := by
  show (i == j) = _
  rw [Bool.eq_iff_iff]
  simp
theorem ok_int (i : Int) : okD (.int i) := ⟨rfl, rfl⟩
end Lb

namespace Lb
open PySem PySem.Spec PyProof.Rows L2 Bl
/-! ### roots of fractions -/
structure Rt where
  b : Rat
  s : Int
  q : Rat
abbrev rt (x : Rt) : D := .tup [fr x.b, .int x.s, fr x.q]
/-! ### the program's fractions -/
theorem common_spec {p q : Int} {n : Nat} {S : Sto} {Q : DK} {E : EK} (hp : sm n p) (hq : sm n q) (k : Q (.int (Int.gcd p q)) S) : m_common [.int p, .int q] S Q E := by
  unfold m_common t_common
  simp only [fnD, sNx, sSeq, sRet, sRetN, sDrop, sIf, sBrk, sCnt, sAsg, sPar, sAug, sSub, setD, sThru, asgT, asgL, itemsOf, vr, cn, dTwo, tbl, ttr, truD_bl, truD_int, truD_non, truD_tup, truD_lst, truD_str, truD_ref, tAndD, tOrD, tNotD, vOf, eIf, vNot, dNeg, fAdd_int, fAdd_tup, fSub, fMul, fDiv, fMod, fPow, fShl, fLt, fLe, fGt, fGe, fEq, fNe, fIx_tup, fIx_lst, fIx_ref, aNil, aCons, dTup, dLst, dLstR, dB, bAbs, bLen_tup, bLen_lst, bLen_ref, bMax, bMin, bInt_int, bInt_bl, dBits, dCall, iVal, iR1, iR2, List.map_cons, List.map_nil, List.length_cons, List.length_nil, List.replicate, List.cons_append, List.nil_append, List.append_nil, List.set, List.getElem?_cons_zero, List.getElem?_cons_succ, List.getElem?_nil, atI_0, atI_1, atI_2, ix20, ix21, sup_same, Nat.reduceAdd, Nat.reduceSub, Nat.succ_eq_add_one, decide_eq_true_eq, Bool.not_eq_true', decide_eq_false_iff_not, true_and, and_true, Bool.true_eq_false, Bool.false_eq_true, if_true, if_false, reduceCtorEq]
  refine ⟨fun m e s => ∃ x y : Int, e = [some (.int x), some (.int y)] ∧ s = S ∧ 0 ≤ x ∧ 0 ≤ y ∧ (Int.gcd x y) = Int.gcd p q ∧ m = y.toNat, ⟨_, _, _, rfl, rfl, by split <;> omega, by split <;> omega, ?_, rfl⟩, ?_⟩
  · split <;> split <;> simp only [Int.neg_gcd, Int.gcd_neg]
  · rintro m e s ⟨x, y, rfl, rfl, hx, hy, hg, rfl⟩
    simp only [eq_int, fnD, sNx, sSeq, sRet, sRetN, sDrop, sIf, sBrk, sCnt, sAsg, sPar, sAug, sSub, setD, sThru, asgT, asgL, itemsOf, vr, cn, dTwo, tbl, ttr, truD_bl, truD_int, truD_non, truD_tup, truD_lst, truD_str, truD_ref, tAndD, tOrD, tNotD, vOf, eIf, vNot, dNeg, fAdd_int, fAdd_tup, fSub, fMul, fDiv, fMod, fPow, fShl, fLt, fLe, fGt, fGe, fEq, fNe, fIx_tup, fIx_lst, fIx_ref, aNil, aCons, dTup, dLst, dLstR, dB, bAbs, bLen_tup, bLen_lst, bLen_ref, bMax, bMin, bInt_int, bInt_bl, dBits, dCall, iVal, iR1, iR2, List.map_cons, List.map_nil, List.length_cons, List.length_nil, List.replicate, List.cons_append, List.nil_append, List.append_nil, List.set, List.getElem?_cons_zero, List.getElem?_cons_succ, List.getElem?_nil, atI_0, atI_1, atI_2, ix20, ix21, sup_same, Nat.reduceAdd, Nat.reduceSub, Nat.succ_eq_add_one, decide_eq_true_eq, Bool.not_eq_true', decide_eq_false_iff_not, true_and, and_true, Bool.true_eq_false, Bool.false_eq_true, if_true, if_false, reduceCtorEq]
    refine ⟨ok_int _, ok_int _, ?_⟩
    by_cases h : y = 0
    · subst h
      rw [Int.gcd_zero_right] at hg
      have : x = ((Int.gcd p q : Nat) : Int) := by omega
      rw [← this] at k
      simpa using k
    · obtain ⟨g1, g2, g3⟩ := gcd_step (show 0 < y by omega) hx
      rw [if_pos (by simpa using h)]
      exact ⟨h, (x.fmod y).toNat, by omega, y, _, rfl, hy, g1, by rw [Int.gcd_comm, g3, Int.gcd_comm]; exact hg, rfl⟩
theorem vr_go {i : Nat} {env : Ev} {d : D} {S : Sto} {Q : DK} {E : EK} (h : env[i]? = some (some d)) (k : Q d S) : vr i env S Q E := by
  unfold vr
  rw [h]
  exact k
/-! ### the script's cells -/
theorem cell_spec {ns : List Int} {i : Int} {S : Sto} {Q : DK} {E : EK} (h : 0 ≤ i) (k : ∀ c : Int, Q (.int c) S) : m_l_cell_at [.lst (ns.map D.int), .int i] S Q E := by
  unfold m_l_cell_at t_l_cell_at
  simp only [fnD, sNx, sSeq, sRet, sRetN, sDrop, sIf, sBrk, sCnt, sAsg, sPar, sAug, sSub, setD, sThru, asgT, asgL, itemsOf, vr, cn, dTwo, tbl, ttr, truD_bl, truD_int, truD_non, truD_tup, truD_lst, truD_str, truD_ref, tAndD, tOrD, tNotD, vOf, eIf, vNot, dNeg, fAdd_int, fAdd_tup, fSub, fMul, fDiv, fMod, fPow, fShl, fLt, fLe, fGt, fGe, fEq, fNe, fIx_tup, fIx_lst, fIx_ref, aNil, aCons, dTup, dLst, dLstR, dB, bAbs, bLen_tup, bLen_lst, bLen_ref, bMax, bMin, bInt_int, bInt_bl, dBits, dCall, iVal, iR1, iR2, List.map_cons, List.map_nil, List.length_cons, List.length_nil, List.replicate, List.cons_append, List.nil_append, List.append_nil, List.set, List.getElem?_cons_zero, List.getElem?_cons_succ, List.getElem?_nil, atI_0, atI_1, atI_2, ix20, ix21, sup_same, Nat.reduceAdd, Nat.reduceSub, Nat.succ_eq_add_one, decide_eq_true_eq, Bool.not_eq_true', decide_eq_false_iff_not, true_and, and_true, Bool.true_eq_false, Bool.false_eq_true, if_true, if_false, reduceCtorEq]
  rw [List.length_map]
  split
  · rename_i hi
    have e : atI (ns.map D.int) i = some (.int (ns.getD i.toNat 0)) := by
      have : i = (i.toNat : Int) := by omega
      conv => lhs; rw [this]
      refine atI_nat ?_
      rw [List.getElem?_map, List.getD_eq_getElem?_getD, List.getElem?_eq_getElem (by omega)]
      rfl
    simp only [e, fnD, sNx, sSeq, sRet, sRetN, sDrop, sIf, sBrk, sCnt, sAsg, sPar, sAug, sSub, setD, sThru, asgT, asgL, itemsOf, vr, cn, dTwo, tbl, ttr, truD_bl, truD_int, truD_non, truD_tup, truD_lst, truD_str, truD_ref, tAndD, tOrD, tNotD, vOf, eIf, vNot, dNeg, fAdd_int, fAdd_tup, fSub, fMul, fDiv, fMod, fPow, fShl, fLt, fLe, fGt, fGe, fEq, fNe, fIx_tup, fIx_lst, fIx_ref, aNil, aCons, dTup, dLst, dLstR, dB, bAbs, bLen_tup, bLen_lst, bLen_ref, bMax, bMin, bInt_int, bInt_bl, dBits, dCall, iVal, iR1, iR2, List.map_cons, List.map_nil, List.length_cons, List.length_nil, List.replicate, List.cons_append, List.nil_append, List.append_nil, List.set, List.getElem?_cons_zero, List.getElem?_cons_succ, List.getElem?_nil, atI_0, atI_1, atI_2, ix20, ix21, sup_same, Nat.reduceAdd, Nat.reduceSub, Nat.succ_eq_add_one, decide_eq_true_eq, Bool.not_eq_true', decide_eq_false_iff_not, true_and, and_true, Bool.true_eq_false, Bool.false_eq_true, if_true, if_false, reduceCtorEq]
    exact k _
  · exact k _
theorem forD_ints {g : Tg} {b : TSd} {N : Nd} (P : Nat → Ev → Sto → Prop) {n : Nat} {lo : Int} (turn : ∀ i env S, i < n → P i env S → ∃ e1, asgT S g (.int (lo + i)) env = some e1 ∧ ∀ N' : Nd, (∀ e s, P (i + 1) e s → N'.nx e s) → (∀ e s, P (i + 1) e s → N'.ct e s) → N'.rt = N.rt → N'.bk = N.nx → N'.ex = N.ex → b e1 S N') (fin : ∀ env S, P n env S → N.nx env S) : ∀ (m : Nat) (i : Nat) {env : Ev} {S : Sto}, i + m = n → P i env S → forD g b ((List.range' i m).map fun i : Nat => D.int (lo + i)) env S N
  | 0, i, env, S, hi, h => by
    have : i = n := by omega
    subst this
    exact fin _ _ h
  | m + 1, i, env, S, hi, h => by
    obtain ⟨e1, ea, hb⟩ := turn i env S (by omega) h
    rw [List.range'_succ, List.map_cons]
    unfold forD
    rw [ea]
    exact hb _ (fun e s q => forD_ints P turn fin m (i + 1) (by omega) q) (fun e s q => forD_ints P turn fin m (i + 1) (by omega) q) rfl rfl rfl
theorem forD_rng {g : Tg} {b : TSd} {N : Nd} (P : Nat → Ev → Sto → Prop) {n : Nat} {lo : Int} {env : Ev} {S : Sto} (h : P 0 env S)
    (turn : ∀ i env S, i < n → P i env S → ∃ e1, asgT S g (.int (lo + i)) env = some e1 ∧ ∀ N' : Nd, (∀ e s, P (i + 1) e s → N'.nx e s) → (∀ e s, P (i + 1) e s → N'.ct e s) → N'.rt = N.rt → N'.bk = N.nx → N'.ex = N.ex → b e1 S N') (fin : ∀ env S, P n env S → N.nx env S) : forD g b (rngD lo n) env S N := by
  unfold rngD
  rw [List.range_eq_range']
  exact forD_ints P turn fin n 0 (by omega) h
theorem bag_spec {ns : List Int} {i : Int} {S : Sto} {Q : DK} {E : EK} (h : 0 ≤ i) (h2 : i < 10000) (k : ∀ a S', S a = none → Bg S' a → Fr S S' a → Q (.ref a) S') : m_l_bag [.lst (ns.map D.int), .int i] S Q E := by
  unfold m_l_bag t_l_bag
  simp only [fnD, sNx, sSeq, sRet, sRetN, sDrop, sIf, sBrk, sCnt, sAsg, sPar, sAug, sSub, setD, sThru, asgT, asgL, itemsOf, vr, cn, dTwo, tbl, ttr, truD_bl, truD_int, truD_non, truD_tup, truD_lst, truD_str, truD_ref, tAndD, tOrD, tNotD, vOf, eIf, vNot, dNeg, fAdd_int, fAdd_tup, fSub, fMul, fDiv, fMod, fPow, fShl, fLt, fLe, fGt, fGe, fEq, fNe, fIx_tup, fIx_lst, fIx_ref, aNil, aCons, dTup, dLst, dLstR, dB, bAbs, bLen_tup, bLen_lst, bLen_ref, bMax, bMin, bInt_int, bInt_bl, dBits, dCall, iVal, iR1, iR2, List.map_cons, List.map_nil, List.length_cons, List.length_nil, List.replicate, List.cons_append, List.nil_append, List.append_nil, List.set, List.getElem?_cons_zero, List.getElem?_cons_succ, List.getElem?_nil, atI_0, atI_1, atI_2, ix20, ix21, sup_same, Nat.reduceAdd, Nat.reduceSub, Nat.succ_eq_add_one, decide_eq_true_eq, Bool.not_eq_true', decide_eq_false_iff_not, true_and, and_true, Bool.true_eq_false, Bool.false_eq_true, if_true, if_false, reduceCtorEq]
  refine ⟨by decide, cell_spec h fun c => ?_⟩
  refine ⟨(sm.of (n := 13) (by decide)).cmul (sm.of (n := 14) (by omega)) (by decide), ?_⟩
  unfold sFor
  simp only [fnD, sNx, sSeq, sRet, sRetN, sDrop, sIf, sBrk, sCnt, sAsg, sPar, sAug, sSub, setD, sThru, asgT, asgL, itemsOf, vr, cn, dTwo, tbl, ttr, truD_bl, truD_int, truD_non, truD_tup, truD_lst, truD_str, truD_ref, tAndD, tOrD, tNotD, vOf, eIf, vNot, dNeg, fAdd_int, fAdd_tup, fSub, fMul, fDiv, fMod, fPow, fShl, fLt, fLe, fGt, fGe, fEq, fNe, fIx_tup, fIx_lst, fIx_ref, aNil, aCons, dTup, dLst, dLstR, dB, bAbs, bLen_tup, bLen_lst, bLen_ref, bMax, bMin, bInt_int, bInt_bl, dBits, dCall, iVal, iR1, iR2, List.map_cons, List.map_nil, List.length_cons, List.length_nil, List.replicate, List.cons_append, List.nil_append, List.append_nil, List.set, List.getElem?_cons_zero, List.getElem?_cons_succ, List.getElem?_nil, atI_0, atI_1, atI_2, ix20, ix21, sup_same, Nat.reduceAdd, Nat.reduceSub, Nat.succ_eq_add_one, decide_eq_true_eq, Bool.not_eq_true', decide_eq_false_iff_not, true_and, and_true, Bool.true_eq_false, Bool.false_eq_true, if_true, if_false, reduceCtorEq]
  refine ⟨by decide, by decide, ?_⟩
  refine forD_rng (fun j e s => ∃ mix : Int, ∃ o5 o6, e = [some (.lst (ns.map D.int)), some (.int i), some (.tup [.int 99991, .int 99971, .int 99961, .int 99929, .int 99923, .int 99907, .int 99901, .int 99881, .int 99877]), some (.int c), some (.int mix), o5, o6] ∧ s = S ∧ 0 ≤ mix ∧ mix < 2147483647) ⟨_, _, _, rfl, rfl, by omega, by omega⟩ ?_ ?_
  · rintro j e s hj ⟨mix, o5, o6, rfl, rfl, m0, m1⟩
    refine ⟨_, rfl, fun N' hnx _ _ _ _ => ?_⟩
    simp only [fnD, sNx, sSeq, sRet, sRetN, sDrop, sIf, sBrk, sCnt, sAsg, sPar, sAug, sSub, setD, sThru, asgT, asgL, itemsOf, vr, cn, dTwo, tbl, ttr, truD_bl, truD_int, truD_non, truD_tup, truD_lst, truD_str, truD_ref, tAndD, tOrD, tNotD, vOf, eIf, vNot, dNeg, fAdd_int, fAdd_tup, fSub, fMul, fDiv, fMod, fPow, fShl, fLt, fLe, fGt, fGe, fEq, fNe, fIx_tup, fIx_lst, fIx_ref, aNil, aCons, dTup, dLst, dLstR, dB, bAbs, bLen_tup, bLen_lst, bLen_ref, bMax, bMin, bInt_int, bInt_bl, dBits, dCall, iVal, iR1, iR2, List.map_cons, List.map_nil, List.length_cons, List.length_nil, List.replicate, List.cons_append, List.nil_append, List.append_nil, List.set, List.getElem?_cons_zero, List.getElem?_cons_succ, List.getElem?_nil, atI_0, atI_1, atI_2, ix20, ix21, sup_same, Nat.reduceAdd, Nat.reduceSub, Nat.succ_eq_add_one, decide_eq_true_eq, Bool.not_eq_true', decide_eq_false_iff_not, true_and, and_true, Bool.true_eq_false, Bool.false_eq_true, if_true, if_false, reduceCtorEq]
    refine cell_spec (by omega) fun c2 => ?_
    have g0 := fmod_pos (a := c2) (b := 10 ^ (18 : Int).toNat) (by decide +kernel)
    have e18 : (10 : Int) ^ (18 : Int).toNat = 1000000000000000000 := rfl
    rw [e18] at g0 ⊢
    have : ∃ p : Int, 0 < p ∧ p < 100000 ∧ atI [D.int 99991, .int 99971, .int 99961, .int 99929, .int 99923, .int 99907, .int 99901, .int 99881, .int 99877] (0 + (j : Int)) = some (.int p) := by
      have hn : ∀ (k : Nat) (p : Int), j = k → [D.int 99991, .int 99971, .int 99961, .int 99929, .int 99923, .int 99907, .int 99901, .int 99881, .int 99877][k]? = some (.int p) → atI [D.int 99991, .int 99971, .int 99961, .int 99929, .int 99923, .int 99907, .int 99901, .int 99881, .int 99877] (0 + (j : Int)) = some (.int p) := fun k p e1 e2 => by
        have : (0 + (j : Int)) = (k : Int) := by omega
        rw [this]
        exact atI_nat e2
      rcases (by omega : j = 0 ∨ j = 1 ∨ j = 2 ∨ j = 3 ∨ j = 4 ∨ j = 5 ∨ j = 6 ∨ j = 7 ∨ j = 8) with h | h | h | h | h | h | h | h | h
      · exact ⟨_, by decide, by decide, hn 0 99991 h rfl⟩
      · exact ⟨_, by decide, by decide, hn 1 99971 h rfl⟩
      · exact ⟨_, by decide, by decide, hn 2 99961 h rfl⟩
      · exact ⟨_, by decide, by decide, hn 3 99929 h rfl⟩
      · exact ⟨_, by decide, by decide, hn 4 99923 h rfl⟩
      · exact ⟨_, by decide, by decide, hn 5 99907 h rfl⟩
      · exact ⟨_, by decide, by decide, hn 6 99901 h rfl⟩
      · exact ⟨_, by decide, by decide, hn 7 99881 h rfl⟩
      · exact ⟨_, by decide, by decide, hn 8 99877 h rfl⟩
    obtain ⟨p, p0, p1, ep⟩ := this
    simp only [ep, fnD, sNx, sSeq, sRet, sRetN, sDrop, sIf, sBrk, sCnt, sAsg, sPar, sAug, sSub, setD, sThru, asgT, asgL, itemsOf, vr, cn, dTwo, tbl, ttr, truD_bl, truD_int, truD_non, truD_tup, truD_lst, truD_str, truD_ref, tAndD, tOrD, tNotD, vOf, eIf, vNot, dNeg, fAdd_int, fAdd_tup, fSub, fMul, fDiv, fMod, fPow, fShl, fLt, fLe, fGt, fGe, fEq, fNe, fIx_tup, fIx_lst, fIx_ref, aNil, aCons, dTup, dLst, dLstR, dB, bAbs, bLen_tup, bLen_lst, bLen_ref, bMax, bMin, bInt_int, bInt_bl, dBits, dCall, iVal, iR1, iR2, List.map_cons, List.map_nil, List.length_cons, List.length_nil, List.replicate, List.cons_append, List.nil_append, List.append_nil, List.set, List.getElem?_cons_zero, List.getElem?_cons_succ, List.getElem?_nil, atI_0, atI_1, atI_2, ix20, ix21, sup_same, Nat.reduceAdd, Nat.reduceSub, Nat.succ_eq_add_one, decide_eq_true_eq, Bool.not_eq_true', decide_eq_false_iff_not, true_and, and_true, Bool.true_eq_false, Bool.false_eq_true, if_true, if_false, reduceCtorEq]
    have g1 := fmod_pos (a := (c2.fmod 1000000000000000000 + 11 * (0 + (j : Int)) + 1) ^ (3 : Int).toNat) p0
    have g2 := fmod_pos (a := mix * 48271 + ((c2.fmod 1000000000000000000 + 11 * (0 + (j : Int)) + 1) ^ (3 : Int).toNat).fmod p) (b := 2147483629) (by omega)
    have hb := (sm.of (n := 61) (i := c2.fmod 1000000000000000000 + 11 * (0 + (j : Int)) + 1) (by omega)).bits
    refine ⟨by decide, by decide, by decide, (sm.of (n := 5) (by decide)).cmul (sm.of (n := 5) (by omega)) (by decide), (sm.of (n := 31) (by omega)).cmul (sm.of (n := 16) (by decide)) (by decide), by decide, by omega, by omega, by decide, hnx _ _ ⟨_, _, _, rfl, rfl, g2.1, by omega⟩⟩
  · rintro e s ⟨mix, o5, o6, rfl, rfl, m0, m1⟩
    simp only [fnD, sNx, sSeq, sRet, sRetN, sDrop, sIf, sBrk, sCnt, sAsg, sPar, sAug, sSub, setD, sThru, asgT, asgL, itemsOf, vr, cn, dTwo, tbl, ttr, truD_bl, truD_int, truD_non, truD_tup, truD_lst, truD_str, truD_ref, tAndD, tOrD, tNotD, vOf, eIf, vNot, dNeg, fAdd_int, fAdd_tup, fSub, fMul, fDiv, fMod, fPow, fShl, fLt, fLe, fGt, fGe, fEq, fNe, fIx_tup, fIx_lst, fIx_ref, aNil, aCons, dTup, dLst, dLstR, dB, bAbs, bLen_tup, bLen_lst, bLen_ref, bMax, bMin, bInt_int, bInt_bl, dBits, dCall, iVal, iR1, iR2, List.map_cons, List.map_nil, List.length_cons, List.length_nil, List.replicate, List.cons_append, List.nil_append, List.append_nil, List.set, List.getElem?_cons_zero, List.getElem?_cons_succ, List.getElem?_nil, atI_0, atI_1, atI_2, ix20, ix21, sup_same, Nat.reduceAdd, Nat.reduceSub, Nat.succ_eq_add_one, decide_eq_true_eq, Bool.not_eq_true', decide_eq_false_iff_not, true_and, and_true, Bool.true_eq_false, Bool.false_eq_true, if_true, if_false, reduceCtorEq]
    have fin : ∀ (c' : Int) (a : Addr), 0 ≤ c' → s a = none → Q (.ref a) (sup s a [.int c', .int (mix + 1)]) := fun c' a hc ha => k a _ ha ⟨_, _, sup_same, hc, by omega, by omega⟩ Fr.sup
    have e18 : (10 : Int) ^ (18 : Int).toNat = 1000000000000000000 := rfl
    rw [e18]
    refine ⟨by decide, by decide, ?_⟩
    split
    · exact ⟨by decide, fun a ha => fin 0 a (by omega) ha⟩
    · exact ⟨by decide, fun a ha => fin c a (by omega) ha⟩
end Lb

namespace Lb
open PySem PySem.Spec PyProof.Rows L2 Bl
/-- in its form -/
def Cn (x : Rt) : Prop := (x.s = 0 ∧ x.q = 0) ∨ (x.s ≠ 0 ∧ x.q ≠ 0 ∧ ¬ sqb x.q)
theorem isi_int (i : Int) : isiD "int" (.int i) = some true := by
  show L2.kitB "int" "int" = some true
  decide +kernel
theorem isi_int_b (i : Int) : isiD "bool" (.int i) = some false := by
  show L2.kitB "int" "bool" = some false
  decide +kernel
theorem isi_tup (ds : List D) : isiD "tuple" (.tup ds) = some true := by
  show L2.kitB "tuple" "tuple" = some true
  decide +kernel
end Lb

/-! The steps of the transformers as rules, for a tactic that goes on as long as one rule fits. -/
namespace Go
open PySem PySem.Spec PyProof.Rows L2 Bl Lb
section
variable {env : Ev} {l : Ev} {S S1 : Sto} {Q : DK} {E : EK} {nx bk ct : Ev → Sto → Prop} {rt : DK} {ex : Xc → Ev → Sto → Prop} {t u : TSd} {ta tb te : TEd} {tt tu : TTd} {a b : D} {P : Bool → Sto → Prop}
def asgK (S : Sto) (g : Tg) (d : D) (env : Ev) (nx : Ev → Sto → Prop) : Prop := match asgT S g d env with
  | some e => nx e S
  | none => False
def parK (S : Sto) (is : List Nat) (ds : List D) (env : Ev) (nx : Ev → Sto → Prop) : Prop := match asgL S (is.map .nm) ds env with
  | some e => nx e S
  | none => False
def ifK (b : Bool) (A B : Prop) : Prop := if b = true then A else B
def tblK (d : D) (S : Sto) (Q : Bool → Sto → Prop) : Prop := match d with | .bl b => Q b S | _ => False
def seqLst (ds : List D) (S : Sto) (Q : DK) : Prop := ds.length ≤ sizeLine ∧ Q (.lst ds) S
theorem gAll {xs : List D} (k : bAll [.lst xs] S Q) : bAll [.lst xs] S Q := k
theorem gVr {i : Nat} (k : vr i env S Q E) : vr i env S Q E := k
def wipeK (vs : List Nat) (env : Ev) (k : Ev → Prop) : Prop := k (wipeD env vs)
def unsK (i : Nat) (env : Ev) (k : Ev → Prop) : Prop := k (env.set i none)
def getLL (ks : List Str) (ds : List D) (ty tx : TEd) (env : Ev) (S : Sto) (Q : DK) (E : EK) : Prop := ds.length = ks.length ∧ ty env S (fun y S2 => tx env S2 (fun z S3 => match y with
  | .str x => Q ((lookD ks ds x).getD z) S3
  | _ => False) E) E
theorem gUns {i : Nat} {k : Ev → Prop} (h : unsK i env k) : unsK i env k := h
theorem gAsg {g : Tg} (k : asgK S g a env nx) : asgK S g a env nx := k
theorem gStar {i aft : Nat} {gs : List Tg} (k : starK i aft gs a env S nx) : starK i aft gs a env S nx := k
theorem gAug {i : Nat} {f : F2} (k : sAug i te f env S ⟨nx, rt, bk, ct, ex⟩) : sAug i te f env S ⟨nx, rt, bk, ct, ex⟩ := k
theorem gIxT {ds : List D} (k : fIx (.tup ds) b S Q) : fIx (.tup ds) b S Q := k
theorem gIxL {ds : List D} (k : fIx (.lst ds) b S Q) : fIx (.lst ds) b S Q := k
def isiK (T : String) (d : D) (S : Sto) (Q : DK) : Prop := match isiD T d with | some b => Q (.bl b) S | none => False
def enumK (d : D) (S : Sto) (Q : List D → Sto → Prop) : Prop := match seqD d with | some ds => Q (enumD ds) S | none => False
def revK (d : D) (S : Sto) (Q : List D → Sto → Prop) : Prop := match seqD d with | some ds => Q ds.reverse S | none => False
theorem revT {ds : List D} {Q : List D → Sto → Prop} (k : Q ds.reverse S) : revK (.tup ds) S Q := k
theorem revL {ds : List D} {Q : List D → Sto → Prop} (k : Q ds.reverse S) : revK (.lst ds) S Q := k
theorem zipT {ds es : List D} {Q : List D → Sto → Prop} (k : Q (zipD ds es) S) : zipK (.tup ds) (.tup es) S Q := k
theorem zipL {ds es : List D} {Q : List D → Sto → Prop} (k : Q (zipD ds es) S) : zipK (.lst ds) (.lst es) S Q := k
def iValK (d : D) (S : Sto) (Q : List D → Sto → Prop) : Prop := match d with | .tup ds => Q ds S | .lst ds => Q ds S | _ => False
theorem iValT {ds : List D} {Q : List D → Sto → Prop} (k : Q ds S) : iValK (.tup ds) S Q := k
theorem iValL {ds : List D} {Q : List D → Sto → Prop} (k : Q ds S) : iValK (.lst ds) S Q := k
theorem isiK' {T : String} {b : Bool} (h : isiD T a = some b) (k : Q (.bl b) S) : isiK T a S Q := by
  unfold isiK
  rw [h]
  exact k
theorem nx' (k : nx env S) : sNx env S ⟨nx, rt, bk, ct, ex⟩ := k
theorem seq (k : t env S ⟨fun e S1 => u e S1 ⟨nx, rt, bk, ct, ex⟩, rt, bk, ct, ex⟩) : sSeq t u env S ⟨nx, rt, bk, ct, ex⟩ := k
theorem ret (k : te env S rt fun x S1 => ex x env S1) : sRet te env S ⟨nx, rt, bk, ct, ex⟩ := k
theorem retN (k : rt .non S) : sRetN env S ⟨nx, rt, bk, ct, ex⟩ := k
theorem drop (k : te env S (fun _ S1 => nx env S1) fun x S1 => ex x env S1) : sDrop te env S ⟨nx, rt, bk, ct, ex⟩ := k
theorem brk (k : bk env S) : sBrk env S ⟨nx, rt, bk, ct, ex⟩ := k
theorem cnt (k : ct env S) : sCnt env S ⟨nx, rt, bk, ct, ex⟩ := k
theorem if' (k : tt env S (fun b S1 => ifK b (t env S1 ⟨nx, rt, bk, ct, ex⟩) (u env S1 ⟨nx, rt, bk, ct, ex⟩)) fun x S1 => ex x env S1) : sIf tt t u env S ⟨nx, rt, bk, ct, ex⟩ := k
theorem asg {g : Tg} (k : te env S (fun d S1 => asgK S1 g d env nx) fun x S1 => ex x env S1) : sAsg te g env S ⟨nx, rt, bk, ct, ex⟩ := k
theorem par {is : List Nat} {t : TAd} (k : t env S (fun ds S1 => parK S1 is ds env nx) fun x S1 => ex x env S1) : sPar is t env S ⟨nx, rt, bk, ct, ex⟩ := k
theorem raise {x : Str} (k : ex ⟨x, []⟩ env S) : sRaise x env S ⟨nx, rt, bk, ct, ex⟩ := k
theorem thru (k : t env S ⟨fun e s => u e s ⟨nx, rt, bk, ct, ex⟩, rt, bk, ct, fun _ _ _ => False⟩) : sThru t u env S ⟨nx, rt, bk, ct, ex⟩ := k
theorem tryAs {sb : Str → Option Bool} {i : Nat} {v : Addr → Str → TSd} (k : t env S (ndT sb i v ⟨nx, rt, bk, ct, ex⟩)) : sTryAs t sb i v env S ⟨nx, rt, bk, ct, ex⟩ := k
theorem for' {ti : TAd} {g : Tg} (k : ti env S (fun ds S1 => forD g t ds env S1 ⟨nx, rt, bk, ct, ex⟩) fun x S1 => ex x env S1) : sFor ti g t env S ⟨nx, rt, bk, ct, ex⟩ := k
theorem sub {to ti : TEd} (k : te env S (fun v S1 => to env S1 (fun o S2 => ti env S2 (fun i S3 => setD o i v S3 fun S4 => nx env S4) fun x S3 => ex x env S3) fun x S2 => ex x env S2) fun x S1 => ex x env S1) : sSub te to ti env S ⟨nx, rt, bk, ct, ex⟩ := k
/-! targets -/
theorem tp_cons {g : Tg} {ts : List Tg} {d : D} {ds : List D} (k : asgK S g d env fun e S => asgK S (.tp ts) (.tup ds) e nx) : asgK S (.tp (g :: ts)) (.tup (d :: ds)) env nx := by
  unfold asgK at *
  show match (match asgT S g d env with | some e => asgL S ts ds e | none => none) with | some e => nx e S | none => False
  cases h : asgT S g d env with
  | none => rw [h] at k; exact k.elim
  | some e => rw [h] at k; exact k
theorem tp_nil (k : nx env S) : asgK S (.tp []) (.tup []) env nx := k
theorem par_cons {i : Nat} {is : List Nat} {d : D} {ds : List D} (k : asgK S (.nm i) d env fun e S => parK S is ds e nx) : parK S (i :: is) (d :: ds) env nx := k
theorem par_nil (k : nx env S) : parK S [] [] env nx := k
/-! expressions -/
theorem cn' (k : Q a S) : Bl.cn a env S Q E := k
theorem two {f : F2} (k : ta env S (fun x S1 => tb env S1 (fun y S2 => f x y S2 Q) E) E) : dTwo ta tb f env S Q E := k
theorem nil {Q : List D → Sto → Prop} (k : Q [] S) : aNil env S Q E := k
theorem cons {t : TEd} {u : TAd} {Q : List D → Sto → Prop} (k : t env S (fun d S1 => u env S1 (fun ds S2 => Q (d :: ds) S2) E) E) : aCons t u env S Q E := k
def tupK (ds : List D) (S : Sto) (Q : DK) : Prop := ds.length ≤ sizeLine ∧ Q (.tup ds) S
def lstRK (ds : List D) (S : Sto) (Q : DK) : Prop := ds.length ≤ sizeLine ∧ ∀ a, S a = none → Q (.ref a) (sup S a ds)
theorem tup {t : TAd} (k : t env S (fun ds S1 => tupK ds S1 Q) E) : dTup t env S Q E := k
theorem lst {t : TAd} (k : t env S (fun ds S1 => seqLst ds S1 Q) E) : dLst t env S Q E := k
theorem lstR {t : TAd} (k : t env S (fun ds S1 => lstRK ds S1 Q) E) : dLstR t env S Q E := k
theorem tupK' {ds : List D} (h : Nat.ble ds.length 100 = true) (k : Q (.tup ds) S) : tupK ds S Q := ⟨Nat.le_trans (Nat.le_of_ble_eq_true h) (by decide), k⟩
theorem lstK' {ds : List D} (h : Nat.ble ds.length 100 = true) (k : Q (.lst ds) S) : seqLst ds S Q := ⟨Nat.le_trans (Nat.le_of_ble_eq_true h) (by decide), k⟩
theorem lstRK' {ds : List D} (h : Nat.ble ds.length 100 = true) (k : ∀ a, S a = none → Q (.ref a) (sup S a ds)) : lstRK ds S Q := ⟨Nat.le_trans (Nat.le_of_ble_eq_true h) (by decide), k⟩
theorem tbl' {P : Bool → Sto → Prop} (k : te env S (fun d S' => tblK d S' P) E) : tbl te env S P E := k
theorem tblK' {c : Bool} (k : P c S) : tblK (.bl c) S P := k
theorem ttr' (k : te env S (fun d S' => truD d S' P) E) : ttr te env S P E := k
theorem truB {c : Bool} (k : P c S) : truD (.bl c) S P := k
theorem truI {i : Int} (k : P (i != 0) S) : truD (.int i) S P := k
theorem truN (k : P false S) : truD .non S P := k
theorem and' (k : tt env S (fun c S1 => ifK c (tu env S1 P E) (P false S1)) E) : tAndD tt tu env S P E := k
theorem or' (k : tt env S (fun c S1 => ifK c (P true S1) (tu env S1 P E)) E) : tOrD tt tu env S P E := k
theorem not' (k : tt env S (fun c S1 => P (!c) S1) E) : tNotD tt env S P E := k
theorem vOf' (k : tt env S (fun c S1 => Q (.bl c) S1) E) : vOf tt env S Q E := k
theorem vNot' (k : ta env S (fun d S' => tblK d S' fun c S1 => Q (.bl (!c)) S1) E) : vNot ta env S Q E := k
theorem eIf' (k : tt env S (fun c S1 => ifK c (ta env S1 Q E) (tb env S1 Q E)) E) : eIf tt ta tb env S Q E := k
theorem ifT {A B : Prop} (k : A) : ifK true A B := k
theorem ifF {A B : Prop} (k : B) : ifK false A B := k
theorem ifN {A B : Prop} {c : Bool} (k : ifK c B A) : ifK (!c) A B := by cases c <;> exact k
theorem ifD {A B p : Prop} [Decidable p] (h : p → A) (k : ¬ p → B) : ifK (decide p) A B := by
  unfold ifK
  by_cases c : p
  · rw [if_pos (decide_eq_true c)]; exact h c
  · rw [if_neg (by simpa using c)]; exact k c
/-! operators -/
variable {i j : Int}
theorem add (k : Q (.int (i + j)) S) : fAdd (.int i) (.int j) S Q := k
theorem addT {ds es : List D} (h : Nat.ble (ds ++ es).length 1000 = true) (k : Q (.tup (ds ++ es)) S) : fAdd (.tup ds) (.tup es) S Q := ⟨by have := Nat.le_of_ble_eq_true h; rw [List.length_append] at this; exact Nat.le_trans this (by decide), k⟩
theorem sub' (k : Q (.int (i - j)) S) : fSub (.int i) (.int j) S Q := k
theorem mul (h : CMul' i j) (k : Q (.int (i * j)) S) : fMul (.int i) (.int j) S Q := ⟨h, k⟩
theorem div (h : CDiv' j) (k : Q (.int (i.fdiv j)) S) : fDiv (.int i) (.int j) S Q := ⟨h, k⟩
theorem mod (h : j ≠ 0) (k : Q (.int (i.fmod j)) S) : fMod (.int i) (.int j) S Q := ⟨h, k⟩
theorem lt (k : Q (.bl (decide (i < j))) S) : fLt (.int i) (.int j) S Q := k
theorem le (k : Q (.bl (decide (i ≤ j))) S) : fLe (.int i) (.int j) S Q := k
theorem gt (k : Q (.bl (decide (j < i))) S) : fGt (.int i) (.int j) S Q := k
theorem ge (k : Q (.bl (decide (j ≤ i))) S) : fGe (.int i) (.int j) S Q := k
theorem eqI (k : Q (.bl (decide (i = j))) S) : fEq (.int i) (.int j) S Q := ⟨ok_int _, ok_int _, by rw [Lb.eq_int]; exact k⟩
theorem neI (k : Q (.bl (!decide (i = j))) S) : fNe (.int i) (.int j) S Q := ⟨ok_int _, ok_int _, by rw [Lb.eq_int]; exact k⟩
def negK (d : D) (S : Sto) (Q : DK) : Prop := match d with | .int i => Q (.int (-i)) S | _ => False
theorem neg (k : ta env S (fun d S' => negK d S' Q) E) : dNeg ta env S Q E := k
theorem neg' (k : Q (.int (-i)) S) : negK (.int i) S Q := k
theorem is' (k : Q (.bl (isN a)) S) : fIs a .non S Q := k
theorem isNot' (k : Q (.bl (!isN a)) S) : fIsNot a .non S Q := k
theorem chain {tc : TEd} {f g : F2} (k : ta env S (fun x S1 => tb env S1 (fun y S2 => f x y S2 (fun d S3 => match d with
  | .bl true => tc env S3 (fun z S4 => g y z S4 Q) E
  | .bl false => Q (.bl false) S3
  | _ => False)) E) E) : dChain ta tb tc f g env S Q E := k
theorem dB' {g : GB} {t : TAd} (k : t env S (fun ds S1 => g ds S1 Q) E) : dB g t env S Q E := k
theorem abs' (k : Q (.int (if i < 0 then -i else i)) S) : bAbs [.int i] S Q := k
theorem lenT {ds : List D} (k : Q (.int ds.length) S) : bLen [.tup ds] S Q := k
theorem lenL {ds : List D} (k : Q (.int ds.length) S) : bLen [.lst ds] S Q := k
theorem max' (k : Q (.int (if j > i then j else i)) S) : bMax [.int i, .int j] S Q := k
theorem min' (k : Q (.int (if j < i then j else i)) S) : bMin [.int i, .int j] S Q := k
theorem intI (k : Q (.int i) S) : bInt [.int i] S Q := k
theorem intB {c : Bool} (k : Q (.int (if c then 1 else 0)) S) : bInt [.bl c] S Q := k
theorem tupL {ds : List D} (k : Q (.tup ds) S) : bTup [.lst ds] S Q := k
theorem tupT {ds : List D} (k : Q (.tup ds) S) : bTup [.tup ds] S Q := k
theorem isi {T : String} (k : ta env S (fun d S1 => isiK T d S1 Q) E) : dIsi T ta env S Q E := k
def callK (m : TFd) (np nk : Nat) (ds zs : List D) (gs : List D) (S : Sto) (Q : DK) (E : EK) : Prop := ds.length = np ∧ zs.length = nk ∧ m gs S Q E
theorem call {m : TFd} {np nk : Nat} {gD : List D → List D → List D} {tk : TAd} {t : TAd} (k : t env S (fun ds S1 => tk env S1 (fun zs S2 => callK m np nk ds zs (gD ds zs) S2 Q E) E) E) : dCall m np nk gD t tk env S Q E := k
theorem callK' {m : TFd} {np nk : Nat} {ds zs gs : List D} (h : ds.length = np) (h2 : zs.length = nk) (k : m gs S Q E) : callK m np nk ds zs gs S Q E := ⟨h, h2, k⟩
/-! items -/
theorem ixT {ds : List D} {i : Int} {d : D} (h : atI ds i = some d) (k : Q d S) : fIx (.tup ds) (.int i) S Q := by
  unfold fIx
  dsimp only
  rw [h]
  exact k
theorem ixL {ds : List D} {i : Int} {d : D} (h : atI ds i = some d) (k : Q d S) : fIx (.lst ds) (.int i) S Q := by
  unfold fIx
  dsimp only
  rw [h]
  exact k
def r1K (ds : List D) (S : Sto) (Q : List D → Sto → Prop) : Prop := match ds with
  | [.int j] => -(2 ^ 62) ≤ j ∧ j < 2 ^ 62 ∧ Q (rngD 0 j.toNat) S
  | _ => False
def r2K (ds : List D) (S : Sto) (Q : List D → Sto → Prop) : Prop := match ds with
  | [.int i, .int j] => (-(2 ^ 62) ≤ i ∧ i < 2 ^ 62 ∧ -(2 ^ 62) ≤ j ∧ j < 2 ^ 62) ∧ Q (rngD i (j - i).toNat) S
  | _ => False
theorem star {te : TEd} {i aft : Nat} {gs : List Tg} (k : te env S (fun d S1 => starK i aft gs d env S1 nx) fun x S1 => ex x env S1) : sStar te i aft gs env S ⟨nx, rt, bk, ct, ex⟩ := k
def asgLK (S : Sto) (gs : List Tg) (ds : List D) (env : Ev) (nx : Ev → Sto → Prop) : Prop := match asgL S gs ds env with
  | some e => nx e S
  | none => False
theorem l_cons {g : Tg} {ts : List Tg} {d : D} {ds : List D} (k : asgK S g d env fun e S => asgLK S ts ds e nx) : asgLK S (g :: ts) (d :: ds) env nx := by
  unfold asgK at k
  unfold asgLK at *
  show match (match asgT S g d env with | some e => asgL S ts ds e | none => none) with | some e => nx e S | none => False
  cases h : asgT S g d env with
  | none => rw [h] at k; exact k.elim
  | some e => rw [h] at k; exact k
theorem l_nil (k : nx env S) : asgLK S [] [] env nx := k
theorem starG {i aft : Nat} {gs : List Tg} {d : D} {ds es : List D} (h : itemsOf S d = some ds) (hl : i + aft ≤ ds.length) (e : starD i aft ds = es) (k : asgLK S gs es env nx) : starK i aft gs d env S nx := by
  unfold starK
  rw [h]
  refine ⟨hl, ?_⟩
  rw [e]
  exact k
theorem enum' {Q : List D → Sto → Prop} (k : te env S (fun d S1 => enumK d S1 Q) E) : iEnumD te env S Q E := k
theorem rev' {Q : List D → Sto → Prop} (k : te env S (fun d S1 => revK d S1 Q) E) : iRevD te env S Q E := k
theorem zip' {t u : TEd} {Q : List D → Sto → Prop} (k : t env S (fun x S1 => u env S1 (fun y S2 => zipK x y S2 Q) E) E) : iZipD t u env S Q E := k
theorem eqS {x y : Str} {b : Bool} (h : okD (.str x)) (h2 : okD (.str y)) (e : eqD (.str x) (.str y) = b) (k : Q (.bl b) S) : fEq (.str x) (.str y) S Q := ⟨h, h2, by rw [e]; exact k⟩
theorem neS {x y : Str} {b : Bool} (h : okD (.str x)) (h2 : okD (.str y)) (e : (!eqD (.str x) (.str y)) = b) (k : Q (.bl b) S) : fNe (.str x) (.str y) S Q := ⟨h, h2, by rw [e]; exact k⟩
theorem gEqS {x y : Str} (k : fEq (.str x) (.str y) S Q) : fEq (.str x) (.str y) S Q := k
theorem gNeS {x y : Str} (k : fNe (.str x) (.str y) S Q) : fNe (.str x) (.str y) S Q := k
theorem wipe_nil {k : Ev → Prop} (h : k env) : wipeK [] env k := h
theorem wipe_cons {v : Nat} {vs : List Nat} {k : Ev → Prop} (h : wipeK vs env fun e => unsK v e k) : wipeK (v :: vs) env k := h
def lcK (g : Tg) (tt : TTd) (te : TEd) (vs : List Nat) (env : Ev) (ds : List D) (S : Sto) (Q : List D → Sto → Prop) : Prop := ds.length < sizeLine ∧ lcGo g tt te (wipeD env vs) ds S Q
theorem lc {ti : TAd} {g : Tg} {vs : List Nat} (k : ti env S (fun ds S1 => lcK g tt te vs env ds S1 fun ys S2 => Q (.lst ys) S2) E) : dLc ti g tt te vs env S Q E := k
theorem lcR {ti : TAd} {g : Tg} {vs : List Nat} (k : ti env S (fun ds S1 => lcK g tt te vs env ds S1 fun ys S2 => ∀ a, S2 a = none → Q (.ref a) (sup S2 a ys)) E) : dLcR ti g tt te vs env S Q E := k
theorem lcL {g : Tg} {vs : List Nat} {ds : List D} {Q : List D → Sto → Prop} (h : Nat.ble ds.length 1000 = true) (k : wipeK vs env fun e => lcGo g tt te e ds S Q) : lcK g tt te vs env ds S Q := ⟨Nat.lt_of_le_of_lt (Nat.le_of_ble_eq_true h) (by decide), k⟩
theorem lg_nil {g : Tg} {Q : List D → Sto → Prop} (k : Q [] S) : lcGo g tt te env [] S Q := k
theorem lg_cons {g : Tg} {d : D} {ds : List D} {Q : List D → Sto → Prop} (k : asgK S g d env fun e1 S1 => tt e1 S1 (fun b S2 => ifK b (te e1 S2 (fun y S3 => lcGo g tt te env ds S3 fun ys S4 => Q (y :: ys) S4) EF) (lcGo g tt te env ds S2 Q)) EF) : lcGo g tt te env (d :: ds) S Q := by
  unfold asgK at k
  unfold lcGo
  exact k
theorem yes {P : Bool → Sto → Prop} (k : P true S) : tYesD env S P E := k
theorem for_nil {g : Tg} (k : nx env S) : forD g t [] env S ⟨nx, rt, bk, ct, ex⟩ := k
theorem for_cons {g : Tg} {d : D} {ds : List D} (k : asgK S g d env fun e1 S1 => t e1 S1 ⟨fun e s => forD g t ds e s ⟨nx, rt, bk, ct, ex⟩, rt, nx, fun e s => forD g t ds e s ⟨nx, rt, bk, ct, ex⟩, ex⟩) : forD g t (d :: ds) env S ⟨nx, rt, bk, ct, ex⟩ := by
  unfold asgK at k
  unfold forD
  exact k
theorem allB {xs : List D} {bs : List Bool} (h : blsOf xs = some bs) (k : Q (.bl (bs.all id)) S) : bAll [.lst xs] S Q := by
  unfold bAll
  dsimp only
  rw [h]
  exact k
theorem sl {t : TEd} {lo hi : TOd} (k : t env S (fun x S1 => lo env S1 (fun l S2 => hi env S2 (fun u S3 => fSl x l u S3 Q) E) E) E) : dSl t lo hi env S Q E := k
theorem oN {Q : Option Int → Sto → Prop} (k : Q none S) : oNone env S Q E := k
def osK (d : D) (S : Sto) (Q : Option Int → Sto → Prop) : Prop := match d with | .int i => Q (some i) S | _ => False
theorem oS {t : TEd} {Q : Option Int → Sto → Prop} (k : t env S (fun d S1 => osK d S1 Q) E) : oSome t env S Q E := k
theorem osK' {Q : Option Int → Sto → Prop} (k : Q (some i) S) : osK (.int i) S Q := k
theorem slT {ds es : List D} {lo hi : Option Int} (e : Bl.cutD ds lo hi = es) (k : Q (.tup es) S) : fSl (.tup ds) lo hi S Q := by subst e; exact k
theorem slL {ds es : List D} {lo hi : Option Int} (e : Bl.cutD ds lo hi = es) (k : Q (.lst es) S) : fSl (.lst ds) lo hi S Q := by subst e; exact k
def getLK (ks : List Str) (ds : List D) (y z : D) (S : Sto) (Q : DK) : Prop := match y with
  | .str x => Q ((lookD ks ds x).getD z) S
  | _ => False
theorem getL {ks : List Str} {ta : TAd} {ty tx : TEd} (k : ta env S (fun ds S1 => getLL ks ds ty tx env S1 Q E) E) : dGetL ks ta ty tx env S Q E := k
theorem getLL' {ks : List Str} {ds : List D} {ty tx : TEd} (h : ds.length = ks.length) (k : ty env S (fun y S2 => tx env S2 (fun z S3 => getLK ks ds y z S3 Q) E) E) : getLL ks ds ty tx env S Q E := ⟨h, k⟩
theorem iadd {i j : Int} (k : Q (.int (i + j)) S) : fIadd (.int i) (.int j) S Q := k
theorem r1 {t : TAd} {Q : List D → Sto → Prop} (k : t env S (fun ds S1 => r1K ds S1 Q) E) : iR1 t env S Q E := k
theorem r1' {j : Int} {n : Nat} {Q : List D → Sto → Prop} (e : j = n) (h : n < 2 ^ 60) (k : Q (rngD 0 n) S) : r1K [.int j] S Q := by
  subst e
  exact ⟨by omega, by omega, by rw [Int.toNat_natCast]; exact k⟩
theorem r2 {t : TAd} {Q : List D → Sto → Prop} (k : t env S (fun ds S1 => r2K ds S1 Q) E) : iR2 t env S Q E := k
theorem cells {α : Type} {c : Int} {xs : List α} (h : 0 ≤ c) : 1 + (if ((xs.length : Nat) : Int) < c then ((xs.length : Nat) : Int) else c) = ((1 + min c.toNat xs.length : Nat) : Int) := by
  split <;> omega
theorem iVal' {Q : List D → Sto → Prop} (k : te env S (fun d S1 => iValK d S1 Q) E) : iVal te env S Q E := k
end
theorem vr0 {l : Ev} {d : D} {S : Sto} {Q : DK} {E : EK} (k : Q d S) : vr 0 (some d :: l) S Q E := k
theorem set0 {y : Option D} {l : Ev} {d : D} {S : Sto} {nx : Ev → Sto → Prop} (k : nx (some d :: l) S) : asgK S (.nm 0) d (y :: l) nx := k
theorem uns0 {y : Option D} {l : Ev} {k : Ev → Prop} (h : k (none :: l)) : unsK 0 (y :: l) k := h
theorem aug0 {l : Ev} {d : D} {S : Sto} {te : TEd} {f : F2} {nx bk ct : Ev → Sto → Prop} {rt : DK} {ex : Xc → Ev → Sto → Prop} (k : te (some d :: l) S (fun y S1 => f d y S1 fun z S2 => nx (some z :: l) S2) fun x S1 => ex x (some d :: l) S1) : sAug 0 te f (some d :: l) S ⟨nx, rt, bk, ct, ex⟩ := k
theorem vr1 {x0 : Option D} {l : Ev} {d : D} {S : Sto} {Q : DK} {E : EK} (k : Q d S) : vr 1 (x0 :: some d :: l) S Q E := k
theorem set1 {x0 : Option D} {y : Option D} {l : Ev} {d : D} {S : Sto} {nx : Ev → Sto → Prop} (k : nx (x0 :: some d :: l) S) : asgK S (.nm 1) d (x0 :: y :: l) nx := k
theorem uns1 {x0 : Option D} {y : Option D} {l : Ev} {k : Ev → Prop} (h : k (x0 :: none :: l)) : unsK 1 (x0 :: y :: l) k := h
theorem aug1 {x0 : Option D} {l : Ev} {d : D} {S : Sto} {te : TEd} {f : F2} {nx bk ct : Ev → Sto → Prop} {rt : DK} {ex : Xc → Ev → Sto → Prop} (k : te (x0 :: some d :: l) S (fun y S1 => f d y S1 fun z S2 => nx (x0 :: some z :: l) S2) fun x S1 => ex x (x0 :: some d :: l) S1) : sAug 1 te f (x0 :: some d :: l) S ⟨nx, rt, bk, ct, ex⟩ := k
theorem vr2 {x0 x1 : Option D} {l : Ev} {d : D} {S : Sto} {Q : DK} {E : EK} (k : Q d S) : vr 2 (x0 :: x1 :: some d :: l) S Q E := k
theorem set2 {x0 x1 : Option D} {y : Option D} {l : Ev} {d : D} {S : Sto} {nx : Ev → Sto → Prop} (k : nx (x0 :: x1 :: some d :: l) S) : asgK S (.nm 2) d (x0 :: x1 :: y :: l) nx := k
theorem uns2 {x0 x1 : Option D} {y : Option D} {l : Ev} {k : Ev → Prop} (h : k (x0 :: x1 :: none :: l)) : unsK 2 (x0 :: x1 :: y :: l) k := h
theorem aug2 {x0 x1 : Option D} {l : Ev} {d : D} {S : Sto} {te : TEd} {f : F2} {nx bk ct : Ev → Sto → Prop} {rt : DK} {ex : Xc → Ev → Sto → Prop} (k : te (x0 :: x1 :: some d :: l) S (fun y S1 => f d y S1 fun z S2 => nx (x0 :: x1 :: some z :: l) S2) fun x S1 => ex x (x0 :: x1 :: some d :: l) S1) : sAug 2 te f (x0 :: x1 :: some d :: l) S ⟨nx, rt, bk, ct, ex⟩ := k
theorem vr3 {x0 x1 x2 : Option D} {l : Ev} {d : D} {S : Sto} {Q : DK} {E : EK} (k : Q d S) : vr 3 (x0 :: x1 :: x2 :: some d :: l) S Q E := k
theorem set3 {x0 x1 x2 : Option D} {y : Option D} {l : Ev} {d : D} {S : Sto} {nx : Ev → Sto → Prop} (k : nx (x0 :: x1 :: x2 :: some d :: l) S) : asgK S (.nm 3) d (x0 :: x1 :: x2 :: y :: l) nx := k
theorem uns3 {x0 x1 x2 : Option D} {y : Option D} {l : Ev} {k : Ev → Prop} (h : k (x0 :: x1 :: x2 :: none :: l)) : unsK 3 (x0 :: x1 :: x2 :: y :: l) k := h
theorem aug3 {x0 x1 x2 : Option D} {l : Ev} {d : D} {S : Sto} {te : TEd} {f : F2} {nx bk ct : Ev → Sto → Prop} {rt : DK} {ex : Xc → Ev → Sto → Prop} (k : te (x0 :: x1 :: x2 :: some d :: l) S (fun y S1 => f d y S1 fun z S2 => nx (x0 :: x1 :: x2 :: some z :: l) S2) fun x S1 => ex x (x0 :: x1 :: x2 :: some d :: l) S1) : sAug 3 te f (x0 :: x1 :: x2 :: some d :: l) S ⟨nx, rt, bk, ct, ex⟩ := k
theorem vr4 {x0 x1 x2 x3 : Option D} {l : Ev} {d : D} {S : Sto} {Q : DK} {E : EK} (k : Q d S) : vr 4 (x0 :: x1 :: x2 :: x3 :: some d :: l) S Q E := k
theorem set4 {x0 x1 x2 x3 : Option D} {y : Option D} {l : Ev} {d : D} {S : Sto} {nx : Ev → Sto → Prop} (k : nx (x0 :: x1 :: x2 :: x3 :: some d :: l) S) : asgK S (.nm 4) d (x0 :: x1 :: x2 :: x3 :: y :: l) nx := k
theorem uns4 {x0 x1 x2 x3 : Option D} {y : Option D} {l : Ev} {k : Ev → Prop} (h : k (x0 :: x1 :: x2 :: x3 :: none :: l)) : unsK 4 (x0 :: x1 :: x2 :: x3 :: y :: l) k := h
theorem aug4 {x0 x1 x2 x3 : Option D} {l : Ev} {d : D} {S : Sto} {te : TEd} {f : F2} {nx bk ct : Ev → Sto → Prop} {rt : DK} {ex : Xc → Ev → Sto → Prop} (k : te (x0 :: x1 :: x2 :: x3 :: some d :: l) S (fun y S1 => f d y S1 fun z S2 => nx (x0 :: x1 :: x2 :: x3 :: some z :: l) S2) fun x S1 => ex x (x0 :: x1 :: x2 :: x3 :: some d :: l) S1) : sAug 4 te f (x0 :: x1 :: x2 :: x3 :: some d :: l) S ⟨nx, rt, bk, ct, ex⟩ := k
theorem vr5 {x0 x1 x2 x3 x4 : Option D} {l : Ev} {d : D} {S : Sto} {Q : DK} {E : EK} (k : Q d S) : vr 5 (x0 :: x1 :: x2 :: x3 :: x4 :: some d :: l) S Q E := k
theorem set5 {x0 x1 x2 x3 x4 : Option D} {y : Option D} {l : Ev} {d : D} {S : Sto} {nx : Ev → Sto → Prop} (k : nx (x0 :: x1 :: x2 :: x3 :: x4 :: some d :: l) S) : asgK S (.nm 5) d (x0 :: x1 :: x2 :: x3 :: x4 :: y :: l) nx := k
theorem uns5 {x0 x1 x2 x3 x4 : Option D} {y : Option D} {l : Ev} {k : Ev → Prop} (h : k (x0 :: x1 :: x2 :: x3 :: x4 :: none :: l)) : unsK 5 (x0 :: x1 :: x2 :: x3 :: x4 :: y :: l) k := h
theorem aug5 {x0 x1 x2 x3 x4 : Option D} {l : Ev} {d : D} {S : Sto} {te : TEd} {f : F2} {nx bk ct : Ev → Sto → Prop} {rt : DK} {ex : Xc → Ev → Sto → Prop} (k : te (x0 :: x1 :: x2 :: x3 :: x4 :: some d :: l) S (fun y S1 => f d y S1 fun z S2 => nx (x0 :: x1 :: x2 :: x3 :: x4 :: some z :: l) S2) fun x S1 => ex x (x0 :: x1 :: x2 :: x3 :: x4 :: some d :: l) S1) : sAug 5 te f (x0 :: x1 :: x2 :: x3 :: x4 :: some d :: l) S ⟨nx, rt, bk, ct, ex⟩ := k
theorem vr6 {x0 x1 x2 x3 x4 x5 : Option D} {l : Ev} {d : D} {S : Sto} {Q : DK} {E : EK} (k : Q d S) : vr 6 (x0 :: x1 :: x2 :: x3 :: x4 :: x5 :: some d :: l) S Q E := k
theorem set6 {x0 x1 x2 x3 x4 x5 : Option D} {y : Option D} {l : Ev} {d : D} {S : Sto} {nx : Ev → Sto → Prop} (k : nx (x0 :: x1 :: x2 :: x3 :: x4 :: x5 :: some d :: l) S) : asgK S (.nm 6) d (x0 :: x1 :: x2 :: x3 :: x4 :: x5 :: y :: l) nx := k
theorem uns6 {x0 x1 x2 x3 x4 x5 : Option D} {y : Option D} {l : Ev} {k : Ev → Prop} (h : k (x0 :: x1 :: x2 :: x3 :: x4 :: x5 :: none :: l)) : unsK 6 (x0 :: x1 :: x2 :: x3 :: x4 :: x5 :: y :: l) k := h
theorem aug6 {x0 x1 x2 x3 x4 x5 : Option D} {l : Ev} {d : D} {S : Sto} {te : TEd} {f : F2} {nx bk ct : Ev → Sto → Prop} {rt : DK} {ex : Xc → Ev → Sto → Prop} (k : te (x0 :: x1 :: x2 :: x3 :: x4 :: x5 :: some d :: l) S (fun y S1 => f d y S1 fun z S2 => nx (x0 :: x1 :: x2 :: x3 :: x4 :: x5 :: some z :: l) S2) fun x S1 => ex x (x0 :: x1 :: x2 :: x3 :: x4 :: x5 :: some d :: l) S1) : sAug 6 te f (x0 :: x1 :: x2 :: x3 :: x4 :: x5 :: some d :: l) S ⟨nx, rt, bk, ct, ex⟩ := k
theorem vr7 {x0 x1 x2 x3 x4 x5 x6 : Option D} {l : Ev} {d : D} {S : Sto} {Q : DK} {E : EK} (k : Q d S) : vr 7 (x0 :: x1 :: x2 :: x3 :: x4 :: x5 :: x6 :: some d :: l) S Q E := k
theorem set7 {x0 x1 x2 x3 x4 x5 x6 : Option D} {y : Option D} {l : Ev} {d : D} {S : Sto} {nx : Ev → Sto → Prop} (k : nx (x0 :: x1 :: x2 :: x3 :: x4 :: x5 :: x6 :: some d :: l) S) : asgK S (.nm 7) d (x0 :: x1 :: x2 :: x3 :: x4 :: x5 :: x6 :: y :: l) nx := k
theorem uns7 {x0 x1 x2 x3 x4 x5 x6 : Option D} {y : Option D} {l : Ev} {k : Ev → Prop} (h : k (x0 :: x1 :: x2 :: x3 :: x4 :: x5 :: x6 :: none :: l)) : unsK 7 (x0 :: x1 :: x2 :: x3 :: x4 :: x5 :: x6 :: y :: l) k := h
theorem aug7 {x0 x1 x2 x3 x4 x5 x6 : Option D} {l : Ev} {d : D} {S : Sto} {te : TEd} {f : F2} {nx bk ct : Ev → Sto → Prop} {rt : DK} {ex : Xc → Ev → Sto → Prop} (k : te (x0 :: x1 :: x2 :: x3 :: x4 :: x5 :: x6 :: some d :: l) S (fun y S1 => f d y S1 fun z S2 => nx (x0 :: x1 :: x2 :: x3 :: x4 :: x5 :: x6 :: some z :: l) S2) fun x S1 => ex x (x0 :: x1 :: x2 :: x3 :: x4 :: x5 :: x6 :: some d :: l) S1) : sAug 7 te f (x0 :: x1 :: x2 :: x3 :: x4 :: x5 :: x6 :: some d :: l) S ⟨nx, rt, bk, ct, ex⟩ := k
theorem vr8 {x0 x1 x2 x3 x4 x5 x6 x7 : Option D} {l : Ev} {d : D} {S : Sto} {Q : DK} {E : EK} (k : Q d S) : vr 8 (x0 :: x1 :: x2 :: x3 :: x4 :: x5 :: x6 :: x7 :: some d :: l) S Q E := k
theorem set8 {x0 x1 x2 x3 x4 x5 x6 x7 : Option D} {y : Option D} {l : Ev} {d : D} {S : Sto} {nx : Ev → Sto → Prop} (k : nx (x0 :: x1 :: x2 :: x3 :: x4 :: x5 :: x6 :: x7 :: some d :: l) S) : asgK S (.nm 8) d (x0 :: x1 :: x2 :: x3 :: x4 :: x5 :: x6 :: x7 :: y :: l) nx := k
theorem uns8 {x0 x1 x2 x3 x4 x5 x6 x7 : Option D} {y : Option D} {l : Ev} {k : Ev → Prop} (h : k (x0 :: x1 :: x2 :: x3 :: x4 :: x5 :: x6 :: x7 :: none :: l)) : unsK 8 (x0 :: x1 :: x2 :: x3 :: x4 :: x5 :: x6 :: x7 :: y :: l) k := h
theorem aug8 {x0 x1 x2 x3 x4 x5 x6 x7 : Option D} {l : Ev} {d : D} {S : Sto} {te : TEd} {f : F2} {nx bk ct : Ev → Sto → Prop} {rt : DK} {ex : Xc → Ev → Sto → Prop} (k : te (x0 :: x1 :: x2 :: x3 :: x4 :: x5 :: x6 :: x7 :: some d :: l) S (fun y S1 => f d y S1 fun z S2 => nx (x0 :: x1 :: x2 :: x3 :: x4 :: x5 :: x6 :: x7 :: some z :: l) S2) fun x S1 => ex x (x0 :: x1 :: x2 :: x3 :: x4 :: x5 :: x6 :: x7 :: some d :: l) S1) : sAug 8 te f (x0 :: x1 :: x2 :: x3 :: x4 :: x5 :: x6 :: x7 :: some d :: l) S ⟨nx, rt, bk, ct, ex⟩ := k
theorem vr9 {x0 x1 x2 x3 x4 x5 x6 x7 x8 : Option D} {l : Ev} {d : D} {S : Sto} {Q : DK} {E : EK} (k : Q d S) : vr 9 (x0 :: x1 :: x2 :: x3 :: x4 :: x5 :: x6 :: x7 :: x8 :: some d :: l) S Q E := k
theorem set9 {x0 x1 x2 x3 x4 x5 x6 x7 x8 : Option D} {y : Option D} {l : Ev} {d : D} {S : Sto} {nx : Ev → Sto → Prop} (k : nx (x0 :: x1 :: x2 :: x3 :: x4 :: x5 :: x6 :: x7 :: x8 :: some d :: l) S) : asgK S (.nm 9) d (x0 :: x1 :: x2 :: x3 :: x4 :: x5 :: x6 :: x7 :: x8 :: y :: l) nx := k
theorem uns9 {x0 x1 x2 x3 x4 x5 x6 x7 x8 : Option D} {y : Option D} {l : Ev} {k : Ev → Prop} (h : k (x0 :: x1 :: x2 :: x3 :: x4 :: x5 :: x6 :: x7 :: x8 :: none :: l)) : unsK 9 (x0 :: x1 :: x2 :: x3 :: x4 :: x5 :: x6 :: x7 :: x8 :: y :: l) k := h
theorem aug9 {x0 x1 x2 x3 x4 x5 x6 x7 x8 : Option D} {l : Ev} {d : D} {S : Sto} {te : TEd} {f : F2} {nx bk ct : Ev → Sto → Prop} {rt : DK} {ex : Xc → Ev → Sto → Prop} (k : te (x0 :: x1 :: x2 :: x3 :: x4 :: x5 :: x6 :: x7 :: x8 :: some d :: l) S (fun y S1 => f d y S1 fun z S2 => nx (x0 :: x1 :: x2 :: x3 :: x4 :: x5 :: x6 :: x7 :: x8 :: some z :: l) S2) fun x S1 => ex x (x0 :: x1 :: x2 :: x3 :: x4 :: x5 :: x6 :: x7 :: x8 :: some d :: l) S1) : sAug 9 te f (x0 :: x1 :: x2 :: x3 :: x4 :: x5 :: x6 :: x7 :: x8 :: some d :: l) S ⟨nx, rt, bk, ct, ex⟩ := k
theorem vr10 {x0 x1 x2 x3 x4 x5 x6 x7 x8 x9 : Option D} {l : Ev} {d : D} {S : Sto} {Q : DK} {E : EK} (k : Q d S) : vr 10 (x0 :: x1 :: x2 :: x3 :: x4 :: x5 :: x6 :: x7 :: x8 :: x9 :: some d :: l) S Q E := k
theorem set10 {x0 x1 x2 x3 x4 x5 x6 x7 x8 x9 : Option D} {y : Option D} {l : Ev} {d : D} {S : Sto} {nx : Ev → Sto → Prop} (k : nx (x0 :: x1 :: x2 :: x3 :: x4 :: x5 :: x6 :: x7 :: x8 :: x9 :: some d :: l) S) : asgK S (.nm 10) d (x0 :: x1 :: x2 :: x3 :: x4 :: x5 :: x6 :: x7 :: x8 :: x9 :: y :: l) nx := k
theorem uns10 {x0 x1 x2 x3 x4 x5 x6 x7 x8 x9 : Option D} {y : Option D} {l : Ev} {k : Ev → Prop} (h : k (x0 :: x1 :: x2 :: x3 :: x4 :: x5 :: x6 :: x7 :: x8 :: x9 :: none :: l)) : unsK 10 (x0 :: x1 :: x2 :: x3 :: x4 :: x5 :: x6 :: x7 :: x8 :: x9 :: y :: l) k := h
theorem aug10 {x0 x1 x2 x3 x4 x5 x6 x7 x8 x9 : Option D} {l : Ev} {d : D} {S : Sto} {te : TEd} {f : F2} {nx bk ct : Ev → Sto → Prop} {rt : DK} {ex : Xc → Ev → Sto → Prop} (k : te (x0 :: x1 :: x2 :: x3 :: x4 :: x5 :: x6 :: x7 :: x8 :: x9 :: some d :: l) S (fun y S1 => f d y S1 fun z S2 => nx (x0 :: x1 :: x2 :: x3 :: x4 :: x5 :: x6 :: x7 :: x8 :: x9 :: some z :: l) S2) fun x S1 => ex x (x0 :: x1 :: x2 :: x3 :: x4 :: x5 :: x6 :: x7 :: x8 :: x9 :: some d :: l) S1) : sAug 10 te f (x0 :: x1 :: x2 :: x3 :: x4 :: x5 :: x6 :: x7 :: x8 :: x9 :: some d :: l) S ⟨nx, rt, bk, ct, ex⟩ := k
theorem vr11 {x0 x1 x2 x3 x4 x5 x6 x7 x8 x9 x10 : Option D} {l : Ev} {d : D} {S : Sto} {Q : DK} {E : EK} (k : Q d S) : vr 11 (x0 :: x1 :: x2 :: x3 :: x4 :: x5 :: x6 :: x7 :: x8 :: x9 :: x10 :: some d :: l) S Q E := k
theorem set11 {x0 x1 x2 x3 x4 x5 x6 x7 x8 x9 x10 : Option D} {y : Option D} {l : Ev} {d : D} {S : Sto} {nx : Ev → Sto → Prop} (k : nx (x0 :: x1 :: x2 :: x3 :: x4 :: x5 :: x6 :: x7 :: x8 :: x9 :: x10 :: some d :: l) S) : asgK S (.nm 11) d (x0 :: x1 :: x2 :: x3 :: x4 :: x5 :: x6 :: x7 :: x8 :: x9 :: x10 :: y :: l) nx := k
theorem uns11 {x0 x1 x2 x3 x4 x5 x6 x7 x8 x9 x10 : Option D} {y : Option D} {l : Ev} {k : Ev → Prop} (h : k (x0 :: x1 :: x2 :: x3 :: x4 :: x5 :: x6 :: x7 :: x8 :: x9 :: x10 :: none :: l)) : unsK 11 (x0 :: x1 :: x2 :: x3 :: x4 :: x5 :: x6 :: x7 :: x8 :: x9 :: x10 :: y :: l) k := h
theorem aug11 {x0 x1 x2 x3 x4 x5 x6 x7 x8 x9 x10 : Option D} {l : Ev} {d : D} {S : Sto} {te : TEd} {f : F2} {nx bk ct : Ev → Sto → Prop} {rt : DK} {ex : Xc → Ev → Sto → Prop} (k : te (x0 :: x1 :: x2 :: x3 :: x4 :: x5 :: x6 :: x7 :: x8 :: x9 :: x10 :: some d :: l) S (fun y S1 => f d y S1 fun z S2 => nx (x0 :: x1 :: x2 :: x3 :: x4 :: x5 :: x6 :: x7 :: x8 :: x9 :: x10 :: some z :: l) S2) fun x S1 => ex x (x0 :: x1 :: x2 :: x3 :: x4 :: x5 :: x6 :: x7 :: x8 :: x9 :: x10 :: some d :: l) S1) : sAug 11 te f (x0 :: x1 :: x2 :: x3 :: x4 :: x5 :: x6 :: x7 :: x8 :: x9 :: x10 :: some d :: l) S ⟨nx, rt, bk, ct, ex⟩ := k
theorem vr12 {x0 x1 x2 x3 x4 x5 x6 x7 x8 x9 x10 x11 : Option D} {l : Ev} {d : D} {S : Sto} {Q : DK} {E : EK} (k : Q d S) : vr 12 (x0 :: x1 :: x2 :: x3 :: x4 :: x5 :: x6 :: x7 :: x8 :: x9 :: x10 :: x11 :: some d :: l) S Q E := k
theorem set12 {x0 x1 x2 x3 x4 x5 x6 x7 x8 x9 x10 x11 : Option D} {y : Option D} {l : Ev} {d : D} {S : Sto} {nx : Ev → Sto → Prop} (k : nx (x0 :: x1 :: x2 :: x3 :: x4 :: x5 :: x6 :: x7 :: x8 :: x9 :: x10 :: x11 :: some d :: l) S) : asgK S (.nm 12) d (x0 :: x1 :: x2 :: x3 :: x4 :: x5 :: x6 :: x7 :: x8 :: x9 :: x10 :: x11 :: y :: l) nx := k
theorem uns12 {x0 x1 x2 x3 x4 x5 x6 x7 x8 x9 x10 x11 : Option D} {y : Option D} {l : Ev} {k : Ev → Prop} (h : k (x0 :: x1 :: x2 :: x3 :: x4 :: x5 :: x6 :: x7 :: x8 :: x9 :: x10 :: x11 :: none :: l)) : unsK 12 (x0 :: x1 :: x2 :: x3 :: x4 :: x5 :: x6 :: x7 :: x8 :: x9 :: x10 :: x11 :: y :: l) k := h
theorem aug12 {x0 x1 x2 x3 x4 x5 x6 x7 x8 x9 x10 x11 : Option D} {l : Ev} {d : D} {S : Sto} {te : TEd} {f : F2} {nx bk ct : Ev → Sto → Prop} {rt : DK} {ex : Xc → Ev → Sto → Prop} (k : te (x0 :: x1 :: x2 :: x3 :: x4 :: x5 :: x6 :: x7 :: x8 :: x9 :: x10 :: x11 :: some d :: l) S (fun y S1 => f d y S1 fun z S2 => nx (x0 :: x1 :: x2 :: x3 :: x4 :: x5 :: x6 :: x7 :: x8 :: x9 :: x10 :: x11 :: some z :: l) S2) fun x S1 => ex x (x0 :: x1 :: x2 :: x3 :: x4 :: x5 :: x6 :: x7 :: x8 :: x9 :: x10 :: x11 :: some d :: l) S1) : sAug 12 te f (x0 :: x1 :: x2 :: x3 :: x4 :: x5 :: x6 :: x7 :: x8 :: x9 :: x10 :: x11 :: some d :: l) S ⟨nx, rt, bk, ct, ex⟩ := k
theorem vr13 {x0 x1 x2 x3 x4 x5 x6 x7 x8 x9 x10 x11 x12 : Option D} {l : Ev} {d : D} {S : Sto} {Q : DK} {E : EK} (k : Q d S) : vr 13 (x0 :: x1 :: x2 :: x3 :: x4 :: x5 :: x6 :: x7 :: x8 :: x9 :: x10 :: x11 :: x12 :: some d :: l) S Q E := k
theorem set13 {x0 x1 x2 x3 x4 x5 x6 x7 x8 x9 x10 x11 x12 : Option D} {y : Option D} {l : Ev} {d : D} {S : Sto} {nx : Ev → Sto → Prop} (k : nx (x0 :: x1 :: x2 :: x3 :: x4 :: x5 :: x6 :: x7 :: x8 :: x9 :: x10 :: x11 :: x12 :: some d :: l) S) : asgK S (.nm 13) d (x0 :: x1 :: x2 :: x3 :: x4 :: x5 :: x6 :: x7 :: x8 :: x9 :: x10 :: x11 :: x12 :: y :: l) nx := k
theorem uns13 {x0 x1 x2 x3 x4 x5 x6 x7 x8 x9 x10 x11 x12 : Option D} {y : Option D} {l : Ev} {k : Ev → Prop} (h : k (x0 :: x1 :: x2 :: x3 :: x4 :: x5 :: x6 :: x7 :: x8 :: x9 :: x10 :: x11 :: x12 :: none :: l)) : unsK 13 (x0 :: x1 :: x2 :: x3 :: x4 :: x5 :: x6 :: x7 :: x8 :: x9 :: x10 :: x11 :: x12 :: y :: l) k := h
theorem aug13 {x0 x1 x2 x3 x4 x5 x6 x7 x8 x9 x10 x11 x12 : Option D} {l : Ev} {d : D} {S : Sto} {te : TEd} {f : F2} {nx bk ct : Ev → Sto → Prop} {rt : DK} {ex : Xc → Ev → Sto → Prop} (k : te (x0 :: x1 :: x2 :: x3 :: x4 :: x5 :: x6 :: x7 :: x8 :: x9 :: x10 :: x11 :: x12 :: some d :: l) S (fun y S1 => f d y S1 fun z S2 => nx (x0 :: x1 :: x2 :: x3 :: x4 :: x5 :: x6 :: x7 :: x8 :: x9 :: x10 :: x11 :: x12 :: some z :: l) S2) fun x S1 => ex x (x0 :: x1 :: x2 :: x3 :: x4 :: x5 :: x6 :: x7 :: x8 :: x9 :: x10 :: x11 :: x12 :: some d :: l) S1) : sAug 13 te f (x0 :: x1 :: x2 :: x3 :: x4 :: x5 :: x6 :: x7 :: x8 :: x9 :: x10 :: x11 :: x12 :: some d :: l) S ⟨nx, rt, bk, ct, ex⟩ := k
theorem vr14 {x0 x1 x2 x3 x4 x5 x6 x7 x8 x9 x10 x11 x12 x13 : Option D} {l : Ev} {d : D} {S : Sto} {Q : DK} {E : EK} (k : Q d S) : vr 14 (x0 :: x1 :: x2 :: x3 :: x4 :: x5 :: x6 :: x7 :: x8 :: x9 :: x10 :: x11 :: x12 :: x13 :: some d :: l) S Q E := k
theorem set14 {x0 x1 x2 x3 x4 x5 x6 x7 x8 x9 x10 x11 x12 x13 : Option D} {y : Option D} {l : Ev} {d : D} {S : Sto} {nx : Ev → Sto → Prop} (k : nx (x0 :: x1 :: x2 :: x3 :: x4 :: x5 :: x6 :: x7 :: x8 :: x9 :: x10 :: x11 :: x12 :: x13 :: some d :: l) S) : asgK S (.nm 14) d (x0 :: x1 :: x2 :: x3 :: x4 :: x5 :: x6 :: x7 :: x8 :: x9 :: x10 :: x11 :: x12 :: x13 :: y :: l) nx := k
theorem uns14 {x0 x1 x2 x3 x4 x5 x6 x7 x8 x9 x10 x11 x12 x13 : Option D} {y : Option D} {l : Ev} {k : Ev → Prop} (h : k (x0 :: x1 :: x2 :: x3 :: x4 :: x5 :: x6 :: x7 :: x8 :: x9 :: x10 :: x11 :: x12 :: x13 :: none :: l)) : unsK 14 (x0 :: x1 :: x2 :: x3 :: x4 :: x5 :: x6 :: x7 :: x8 :: x9 :: x10 :: x11 :: x12 :: x13 :: y :: l) k := h
theorem aug14 {x0 x1 x2 x3 x4 x5 x6 x7 x8 x9 x10 x11 x12 x13 : Option D} {l : Ev} {d : D} {S : Sto} {te : TEd} {f : F2} {nx bk ct : Ev → Sto → Prop} {rt : DK} {ex : Xc → Ev → Sto → Prop} (k : te (x0 :: x1 :: x2 :: x3 :: x4 :: x5 :: x6 :: x7 :: x8 :: x9 :: x10 :: x11 :: x12 :: x13 :: some d :: l) S (fun y S1 => f d y S1 fun z S2 => nx (x0 :: x1 :: x2 :: x3 :: x4 :: x5 :: x6 :: x7 :: x8 :: x9 :: x10 :: x11 :: x12 :: x13 :: some z :: l) S2) fun x S1 => ex x (x0 :: x1 :: x2 :: x3 :: x4 :: x5 :: x6 :: x7 :: x8 :: x9 :: x10 :: x11 :: x12 :: x13 :: some d :: l) S1) : sAug 14 te f (x0 :: x1 :: x2 :: x3 :: x4 :: x5 :: x6 :: x7 :: x8 :: x9 :: x10 :: x11 :: x12 :: x13 :: some d :: l) S ⟨nx, rt, bk, ct, ex⟩ := k
theorem vr15 {x0 x1 x2 x3 x4 x5 x6 x7 x8 x9 x10 x11 x12 x13 x14 : Option D} {l : Ev} {d : D} {S : Sto} {Q : DK} {E : EK} (k : Q d S) : vr 15 (x0 :: x1 :: x2 :: x3 :: x4 :: x5 :: x6 :: x7 :: x8 :: x9 :: x10 :: x11 :: x12 :: x13 :: x14 :: some d :: l) S Q E := k
theorem set15 {x0 x1 x2 x3 x4 x5 x6 x7 x8 x9 x10 x11 x12 x13 x14 : Option D} {y : Option D} {l : Ev} {d : D} {S : Sto} {nx : Ev → Sto → Prop} (k : nx (x0 :: x1 :: x2 :: x3 :: x4 :: x5 :: x6 :: x7 :: x8 :: x9 :: x10 :: x11 :: x12 :: x13 :: x14 :: some d :: l) S) : asgK S (.nm 15) d (x0 :: x1 :: x2 :: x3 :: x4 :: x5 :: x6 :: x7 :: x8 :: x9 :: x10 :: x11 :: x12 :: x13 :: x14 :: y :: l) nx := k
theorem uns15 {x0 x1 x2 x3 x4 x5 x6 x7 x8 x9 x10 x11 x12 x13 x14 : Option D} {y : Option D} {l : Ev} {k : Ev → Prop} (h : k (x0 :: x1 :: x2 :: x3 :: x4 :: x5 :: x6 :: x7 :: x8 :: x9 :: x10 :: x11 :: x12 :: x13 :: x14 :: none :: l)) : unsK 15 (x0 :: x1 :: x2 :: x3 :: x4 :: x5 :: x6 :: x7 :: x8 :: x9 :: x10 :: x11 :: x12 :: x13 :: x14 :: y :: l) k := h
theorem aug15 {x0 x1 x2 x3 x4 x5 x6 x7 x8 x9 x10 x11 x12 x13 x14 : Option D} {l : Ev} {d : D} {S : Sto} {te : TEd} {f : F2} {nx bk ct : Ev → Sto → Prop} {rt : DK} {ex : Xc → Ev → Sto → Prop} (k : te (x0 :: x1 :: x2 :: x3 :: x4 :: x5 :: x6 :: x7 :: x8 :: x9 :: x10 :: x11 :: x12 :: x13 :: x14 :: some d :: l) S (fun y S1 => f d y S1 fun z S2 => nx (x0 :: x1 :: x2 :: x3 :: x4 :: x5 :: x6 :: x7 :: x8 :: x9 :: x10 :: x11 :: x12 :: x13 :: x14 :: some z :: l) S2) fun x S1 => ex x (x0 :: x1 :: x2 :: x3 :: x4 :: x5 :: x6 :: x7 :: x8 :: x9 :: x10 :: x11 :: x12 :: x13 :: x14 :: some d :: l) S1) : sAug 15 te f (x0 :: x1 :: x2 :: x3 :: x4 :: x5 :: x6 :: x7 :: x8 :: x9 :: x10 :: x11 :: x12 :: x13 :: x14 :: some d :: l) S ⟨nx, rt, bk, ct, ex⟩ := k
theorem vr16 {x0 x1 x2 x3 x4 x5 x6 x7 x8 x9 x10 x11 x12 x13 x14 x15 : Option D} {l : Ev} {d : D} {S : Sto} {Q : DK} {E : EK} (k : Q d S) : vr 16 (x0 :: x1 :: x2 :: x3 :: x4 :: x5 :: x6 :: x7 :: x8 :: x9 :: x10 :: x11 :: x12 :: x13 :: x14 :: x15 :: some d :: l) S Q E := k
theorem set16 {x0 x1 x2 x3 x4 x5 x6 x7 x8 x9 x10 x11 x12 x13 x14 x15 : Option D} {y : Option D} {l : Ev} {d : D} {S : Sto} {nx : Ev → Sto → Prop} (k : nx (x0 :: x1 :: x2 :: x3 :: x4 :: x5 :: x6 :: x7 :: x8 :: x9 :: x10 :: x11 :: x12 :: x13 :: x14 :: x15 :: some d :: l) S) : asgK S (.nm 16) d (x0 :: x1 :: x2 :: x3 :: x4 :: x5 :: x6 :: x7 :: x8 :: x9 :: x10 :: x11 :: x12 :: x13 :: x14 :: x15 :: y :: l) nx := k
theorem uns16 {x0 x1 x2 x3 x4 x5 x6 x7 x8 x9 x10 x11 x12 x13 x14 x15 : Option D} {y : Option D} {l : Ev} {k : Ev → Prop} (h : k (x0 :: x1 :: x2 :: x3 :: x4 :: x5 :: x6 :: x7 :: x8 :: x9 :: x10 :: x11 :: x12 :: x13 :: x14 :: x15 :: none :: l)) : unsK 16 (x0 :: x1 :: x2 :: x3 :: x4 :: x5 :: x6 :: x7 :: x8 :: x9 :: x10 :: x11 :: x12 :: x13 :: x14 :: x15 :: y :: l) k := h
theorem aug16 {x0 x1 x2 x3 x4 x5 x6 x7 x8 x9 x10 x11 x12 x13 x14 x15 : Option D} {l : Ev} {d : D} {S : Sto} {te : TEd} {f : F2} {nx bk ct : Ev → Sto → Prop} {rt : DK} {ex : Xc → Ev → Sto → Prop} (k : te (x0 :: x1 :: x2 :: x3 :: x4 :: x5 :: x6 :: x7 :: x8 :: x9 :: x10 :: x11 :: x12 :: x13 :: x14 :: x15 :: some d :: l) S (fun y S1 => f d y S1 fun z S2 => nx (x0 :: x1 :: x2 :: x3 :: x4 :: x5 :: x6 :: x7 :: x8 :: x9 :: x10 :: x11 :: x12 :: x13 :: x14 :: x15 :: some z :: l) S2) fun x S1 => ex x (x0 :: x1 :: x2 :: x3 :: x4 :: x5 :: x6 :: x7 :: x8 :: x9 :: x10 :: x11 :: x12 :: x13 :: x14 :: x15 :: some d :: l) S1) : sAug 16 te f (x0 :: x1 :: x2 :: x3 :: x4 :: x5 :: x6 :: x7 :: x8 :: x9 :: x10 :: x11 :: x12 :: x13 :: x14 :: x15 :: some d :: l) S ⟨nx, rt, bk, ct, ex⟩ := k
theorem vr17 {x0 x1 x2 x3 x4 x5 x6 x7 x8 x9 x10 x11 x12 x13 x14 x15 x16 : Option D} {l : Ev} {d : D} {S : Sto} {Q : DK} {E : EK} (k : Q d S) : vr 17 (x0 :: x1 :: x2 :: x3 :: x4 :: x5 :: x6 :: x7 :: x8 :: x9 :: x10 :: x11 :: x12 :: x13 :: x14 :: x15 :: x16 :: some d :: l) S Q E := k
theorem set17 {x0 x1 x2 x3 x4 x5 x6 x7 x8 x9 x10 x11 x12 x13 x14 x15 x16 : Option D} {y : Option D} {l : Ev} {d : D} {S : Sto} {nx : Ev → Sto → Prop} (k : nx (x0 :: x1 :: x2 :: x3 :: x4 :: x5 :: x6 :: x7 :: x8 :: x9 :: x10 :: x11 :: x12 :: x13 :: x14 :: x15 :: x16 :: some d :: l) S) : asgK S (.nm 17) d (x0 :: x1 :: x2 :: x3 :: x4 :: x5 :: x6 :: x7 :: x8 :: x9 :: x10 :: x11 :: x12 :: x13 :: x14 :: x15 :: x16 :: y :: l) nx := k
theorem uns17 {x0 x1 x2 x3 x4 x5 x6 x7 x8 x9 x10 x11 x12 x13 x14 x15 x16 : Option D} {y : Option D} {l : Ev} {k : Ev → Prop} (h : k (x0 :: x1 :: x2 :: x3 :: x4 :: x5 :: x6 :: x7 :: x8 :: x9 :: x10 :: x11 :: x12 :: x13 :: x14 :: x15 :: x16 :: none :: l)) : unsK 17 (x0 :: x1 :: x2 :: x3 :: x4 :: x5 :: x6 :: x7 :: x8 :: x9 :: x10 :: x11 :: x12 :: x13 :: x14 :: x15 :: x16 :: y :: l) k := h
theorem aug17 {x0 x1 x2 x3 x4 x5 x6 x7 x8 x9 x10 x11 x12 x13 x14 x15 x16 : Option D} {l : Ev} {d : D} {S : Sto} {te : TEd} {f : F2} {nx bk ct : Ev → Sto → Prop} {rt : DK} {ex : Xc → Ev → Sto → Prop} (k : te (x0 :: x1 :: x2 :: x3 :: x4 :: x5 :: x6 :: x7 :: x8 :: x9 :: x10 :: x11 :: x12 :: x13 :: x14 :: x15 :: x16 :: some d :: l) S (fun y S1 => f d y S1 fun z S2 => nx (x0 :: x1 :: x2 :: x3 :: x4 :: x5 :: x6 :: x7 :: x8 :: x9 :: x10 :: x11 :: x12 :: x13 :: x14 :: x15 :: x16 :: some z :: l) S2) fun x S1 => ex x (x0 :: x1 :: x2 :: x3 :: x4 :: x5 :: x6 :: x7 :: x8 :: x9 :: x10 :: x11 :: x12 :: x13 :: x14 :: x15 :: x16 :: some d :: l) S1) : sAug 17 te f (x0 :: x1 :: x2 :: x3 :: x4 :: x5 :: x6 :: x7 :: x8 :: x9 :: x10 :: x11 :: x12 :: x13 :: x14 :: x15 :: x16 :: some d :: l) S ⟨nx, rt, bk, ct, ex⟩ := k
theorem vr18 {x0 x1 x2 x3 x4 x5 x6 x7 x8 x9 x10 x11 x12 x13 x14 x15 x16 x17 : Option D} {l : Ev} {d : D} {S : Sto} {Q : DK} {E : EK} (k : Q d S) : vr 18 (x0 :: x1 :: x2 :: x3 :: x4 :: x5 :: x6 :: x7 :: x8 :: x9 :: x10 :: x11 :: x12 :: x13 :: x14 :: x15 :: x16 :: x17 :: some d :: l) S Q E := k
theorem set18 {x0 x1 x2 x3 x4 x5 x6 x7 x8 x9 x10 x11 x12 x13 x14 x15 x16 x17 : Option D} {y : Option D} {l : Ev} {d : D} {S : Sto} {nx : Ev → Sto → Prop} (k : nx (x0 :: x1 :: x2 :: x3 :: x4 :: x5 :: x6 :: x7 :: x8 :: x9 :: x10 :: x11 :: x12 :: x13 :: x14 :: x15 :: x16 :: x17 :: some d :: l) S) : asgK S (.nm 18) d (x0 :: x1 :: x2 :: x3 :: x4 :: x5 :: x6 :: x7 :: x8 :: x9 :: x10 :: x11 :: x12 :: x13 :: x14 :: x15 :: x16 :: x17 :: y :: l) nx := k
theorem uns18 {x0 x1 x2 x3 x4 x5 x6 x7 x8 x9 x10 x11 x12 x13 x14 x15 x16 x17 : Option D} {y : Option D} {l : Ev} {k : Ev → Prop} (h : k (x0 :: x1 :: x2 :: x3 :: x4 :: x5 :: x6 :: x7 :: x8 :: x9 :: x10 :: x11 :: x12 :: x13 :: x14 :: x15 :: x16 :: x17 :: none :: l)) : unsK 18 (x0 :: x1 :: x2 :: x3 :: x4 :: x5 :: x6 :: x7 :: x8 :: x9 :: x10 :: x11 :: x12 :: x13 :: x14 :: x15 :: x16 :: x17 :: y :: l) k := h
theorem aug18 {x0 x1 x2 x3 x4 x5 x6 x7 x8 x9 x10 x11 x12 x13 x14 x15 x16 x17 : Option D} {l : Ev} {d : D} {S : Sto} {te : TEd} {f : F2} {nx bk ct : Ev → Sto → Prop} {rt : DK} {ex : Xc → Ev → Sto → Prop} (k : te (x0 :: x1 :: x2 :: x3 :: x4 :: x5 :: x6 :: x7 :: x8 :: x9 :: x10 :: x11 :: x12 :: x13 :: x14 :: x15 :: x16 :: x17 :: some d :: l) S (fun y S1 => f d y S1 fun z S2 => nx (x0 :: x1 :: x2 :: x3 :: x4 :: x5 :: x6 :: x7 :: x8 :: x9 :: x10 :: x11 :: x12 :: x13 :: x14 :: x15 :: x16 :: x17 :: some z :: l) S2) fun x S1 => ex x (x0 :: x1 :: x2 :: x3 :: x4 :: x5 :: x6 :: x7 :: x8 :: x9 :: x10 :: x11 :: x12 :: x13 :: x14 :: x15 :: x16 :: x17 :: some d :: l) S1) : sAug 18 te f (x0 :: x1 :: x2 :: x3 :: x4 :: x5 :: x6 :: x7 :: x8 :: x9 :: x10 :: x11 :: x12 :: x13 :: x14 :: x15 :: x16 :: x17 :: some d :: l) S ⟨nx, rt, bk, ct, ex⟩ := k
theorem vr19 {x0 x1 x2 x3 x4 x5 x6 x7 x8 x9 x10 x11 x12 x13 x14 x15 x16 x17 x18 : Option D} {l : Ev} {d : D} {S : Sto} {Q : DK} {E : EK} (k : Q d S) : vr 19 (x0 :: x1 :: x2 :: x3 :: x4 :: x5 :: x6 :: x7 :: x8 :: x9 :: x10 :: x11 :: x12 :: x13 :: x14 :: x15 :: x16 :: x17 :: x18 :: some d :: l) S Q E := k
theorem set19 {x0 x1 x2 x3 x4 x5 x6 x7 x8 x9 x10 x11 x12 x13 x14 x15 x16 x17 x18 : Option D} {y : Option D} {l : Ev} {d : D} {S : Sto} {nx : Ev → Sto → Prop} (k : nx (x0 :: x1 :: x2 :: x3 :: x4 :: x5 :: x6 :: x7 :: x8 :: x9 :: x10 :: x11 :: x12 :: x13 :: x14 :: x15 :: x16 :: x17 :: x18 :: some d :: l) S) : asgK S (.nm 19) d (x0 :: x1 :: x2 :: x3 :: x4 :: x5 :: x6 :: x7 :: x8 :: x9 :: x10 :: x11 :: x12 :: x13 :: x14 :: x15 :: x16 :: x17 :: x18 :: y :: l) nx := k
theorem uns19 {x0 x1 x2 x3 x4 x5 x6 x7 x8 x9 x10 x11 x12 x13 x14 x15 x16 x17 x18 : Option D} {y : Option D} {l : Ev} {k : Ev → Prop} (h : k (x0 :: x1 :: x2 :: x3 :: x4 :: x5 :: x6 :: x7 :: x8 :: x9 :: x10 :: x11 :: x12 :: x13 :: x14 :: x15 :: x16 :: x17 :: x18 :: none :: l)) : unsK 19 (x0 :: x1 :: x2 :: x3 :: x4 :: x5 :: x6 :: x7 :: x8 :: x9 :: x10 :: x11 :: x12 :: x13 :: x14 :: x15 :: x16 :: x17 :: x18 :: y :: l) k := h
theorem aug19 {x0 x1 x2 x3 x4 x5 x6 x7 x8 x9 x10 x11 x12 x13 x14 x15 x16 x17 x18 : Option D} {l : Ev} {d : D} {S : Sto} {te : TEd} {f : F2} {nx bk ct : Ev → Sto → Prop} {rt : DK} {ex : Xc → Ev → Sto → Prop} (k : te (x0 :: x1 :: x2 :: x3 :: x4 :: x5 :: x6 :: x7 :: x8 :: x9 :: x10 :: x11 :: x12 :: x13 :: x14 :: x15 :: x16 :: x17 :: x18 :: some d :: l) S (fun y S1 => f d y S1 fun z S2 => nx (x0 :: x1 :: x2 :: x3 :: x4 :: x5 :: x6 :: x7 :: x8 :: x9 :: x10 :: x11 :: x12 :: x13 :: x14 :: x15 :: x16 :: x17 :: x18 :: some z :: l) S2) fun x S1 => ex x (x0 :: x1 :: x2 :: x3 :: x4 :: x5 :: x6 :: x7 :: x8 :: x9 :: x10 :: x11 :: x12 :: x13 :: x14 :: x15 :: x16 :: x17 :: x18 :: some d :: l) S1) : sAug 19 te f (x0 :: x1 :: x2 :: x3 :: x4 :: x5 :: x6 :: x7 :: x8 :: x9 :: x10 :: x11 :: x12 :: x13 :: x14 :: x15 :: x16 :: x17 :: x18 :: some d :: l) S ⟨nx, rt, bk, ct, ex⟩ := k
theorem vr20 {x0 x1 x2 x3 x4 x5 x6 x7 x8 x9 x10 x11 x12 x13 x14 x15 x16 x17 x18 x19 : Option D} {l : Ev} {d : D} {S : Sto} {Q : DK} {E : EK} (k : Q d S) : vr 20 (x0 :: x1 :: x2 :: x3 :: x4 :: x5 :: x6 :: x7 :: x8 :: x9 :: x10 :: x11 :: x12 :: x13 :: x14 :: x15 :: x16 :: x17 :: x18 :: x19 :: some d :: l) S Q E := k
theorem set20 {x0 x1 x2 x3 x4 x5 x6 x7 x8 x9 x10 x11 x12 x13 x14 x15 x16 x17 x18 x19 : Option D} {y : Option D} {l : Ev} {d : D} {S : Sto} {nx : Ev → Sto → Prop} (k : nx (x0 :: x1 :: x2 :: x3 :: x4 :: x5 :: x6 :: x7 :: x8 :: x9 :: x10 :: x11 :: x12 :: x13 :: x14 :: x15 :: x16 :: x17 :: x18 :: x19 :: some d :: l) S) : asgK S (.nm 20) d (x0 :: x1 :: x2 :: x3 :: x4 :: x5 :: x6 :: x7 :: x8 :: x9 :: x10 :: x11 :: x12 :: x13 :: x14 :: x15 :: x16 :: x17 :: x18 :: x19 :: y :: l) nx := k
theorem uns20 {x0 x1 x2 x3 x4 x5 x6 x7 x8 x9 x10 x11 x12 x13 x14 x15 x16 x17 x18 x19 : Option D} {y : Option D} {l : Ev} {k : Ev → Prop} (h : k (x0 :: x1 :: x2 :: x3 :: x4 :: x5 :: x6 :: x7 :: x8 :: x9 :: x10 :: x11 :: x12 :: x13 :: x14 :: x15 :: x16 :: x17 :: x18 :: x19 :: none :: l)) : unsK 20 (x0 :: x1 :: x2 :: x3 :: x4 :: x5 :: x6 :: x7 :: x8 :: x9 :: x10 :: x11 :: x12 :: x13 :: x14 :: x15 :: x16 :: x17 :: x18 :: x19 :: y :: l) k := h
theorem aug20 {x0 x1 x2 x3 x4 x5 x6 x7 x8 x9 x10 x11 x12 x13 x14 x15 x16 x17 x18 x19 : Option D} {l : Ev} {d : D} {S : Sto} {te : TEd} {f : F2} {nx bk ct : Ev → Sto → Prop} {rt : DK} {ex : Xc → Ev → Sto → Prop} (k : te (x0 :: x1 :: x2 :: x3 :: x4 :: x5 :: x6 :: x7 :: x8 :: x9 :: x10 :: x11 :: x12 :: x13 :: x14 :: x15 :: x16 :: x17 :: x18 :: x19 :: some d :: l) S (fun y S1 => f d y S1 fun z S2 => nx (x0 :: x1 :: x2 :: x3 :: x4 :: x5 :: x6 :: x7 :: x8 :: x9 :: x10 :: x11 :: x12 :: x13 :: x14 :: x15 :: x16 :: x17 :: x18 :: x19 :: some z :: l) S2) fun x S1 => ex x (x0 :: x1 :: x2 :: x3 :: x4 :: x5 :: x6 :: x7 :: x8 :: x9 :: x10 :: x11 :: x12 :: x13 :: x14 :: x15 :: x16 :: x17 :: x18 :: x19 :: some d :: l) S1) : sAug 20 te f (x0 :: x1 :: x2 :: x3 :: x4 :: x5 :: x6 :: x7 :: x8 :: x9 :: x10 :: x11 :: x12 :: x13 :: x14 :: x15 :: x16 :: x17 :: x18 :: x19 :: some d :: l) S ⟨nx, rt, bk, ct, ex⟩ := k
theorem vr21 {x0 x1 x2 x3 x4 x5 x6 x7 x8 x9 x10 x11 x12 x13 x14 x15 x16 x17 x18 x19 x20 : Option D} {l : Ev} {d : D} {S : Sto} {Q : DK} {E : EK} (k : Q d S) : vr 21 (x0 :: x1 :: x2 :: x3 :: x4 :: x5 :: x6 :: x7 :: x8 :: x9 :: x10 :: x11 :: x12 :: x13 :: x14 :: x15 :: x16 :: x17 :: x18 :: x19 :: x20 :: some d :: l) S Q E := k
theorem set21 {x0 x1 x2 x3 x4 x5 x6 x7 x8 x9 x10 x11 x12 x13 x14 x15 x16 x17 x18 x19 x20 : Option D} {y : Option D} {l : Ev} {d : D} {S : Sto} {nx : Ev → Sto → Prop} (k : nx (x0 :: x1 :: x2 :: x3 :: x4 :: x5 :: x6 :: x7 :: x8 :: x9 :: x10 :: x11 :: x12 :: x13 :: x14 :: x15 :: x16 :: x17 :: x18 :: x19 :: x20 :: some d :: l) S) : asgK S (.nm 21) d (x0 :: x1 :: x2 :: x3 :: x4 :: x5 :: x6 :: x7 :: x8 :: x9 :: x10 :: x11 :: x12 :: x13 :: x14 :: x15 :: x16 :: x17 :: x18 :: x19 :: x20 :: y :: l) nx := k
theorem uns21 {x0 x1 x2 x3 x4 x5 x6 x7 x8 x9 x10 x11 x12 x13 x14 x15 x16 x17 x18 x19 x20 : Option D} {y : Option D} {l : Ev} {k : Ev → Prop} (h : k (x0 :: x1 :: x2 :: x3 :: x4 :: x5 :: x6 :: x7 :: x8 :: x9 :: x10 :: x11 :: x12 :: x13 :: x14 :: x15 :: x16 :: x17 :: x18 :: x19 :: x20 :: none :: l)) : unsK 21 (x0 :: x1 :: x2 :: x3 :: x4 :: x5 :: x6 :: x7 :: x8 :: x9 :: x10 :: x11 :: x12 :: x13 :: x14 :: x15 :: x16 :: x17 :: x18 :: x19 :: x20 :: y :: l) k := h
theorem aug21 {x0 x1 x2 x3 x4 x5 x6 x7 x8 x9 x10 x11 x12 x13 x14 x15 x16 x17 x18 x19 x20 : Option D} {l : Ev} {d : D} {S : Sto} {te : TEd} {f : F2} {nx bk ct : Ev → Sto → Prop} {rt : DK} {ex : Xc → Ev → Sto → Prop} (k : te (x0 :: x1 :: x2 :: x3 :: x4 :: x5 :: x6 :: x7 :: x8 :: x9 :: x10 :: x11 :: x12 :: x13 :: x14 :: x15 :: x16 :: x17 :: x18 :: x19 :: x20 :: some d :: l) S (fun y S1 => f d y S1 fun z S2 => nx (x0 :: x1 :: x2 :: x3 :: x4 :: x5 :: x6 :: x7 :: x8 :: x9 :: x10 :: x11 :: x12 :: x13 :: x14 :: x15 :: x16 :: x17 :: x18 :: x19 :: x20 :: some z :: l) S2) fun x S1 => ex x (x0 :: x1 :: x2 :: x3 :: x4 :: x5 :: x6 :: x7 :: x8 :: x9 :: x10 :: x11 :: x12 :: x13 :: x14 :: x15 :: x16 :: x17 :: x18 :: x19 :: x20 :: some d :: l) S1) : sAug 21 te f (x0 :: x1 :: x2 :: x3 :: x4 :: x5 :: x6 :: x7 :: x8 :: x9 :: x10 :: x11 :: x12 :: x13 :: x14 :: x15 :: x16 :: x17 :: x18 :: x19 :: x20 :: some d :: l) S ⟨nx, rt, bk, ct, ex⟩ := k
theorem vr22 {x0 x1 x2 x3 x4 x5 x6 x7 x8 x9 x10 x11 x12 x13 x14 x15 x16 x17 x18 x19 x20 x21 : Option D} {l : Ev} {d : D} {S : Sto} {Q : DK} {E : EK} (k : Q d S) : vr 22 (x0 :: x1 :: x2 :: x3 :: x4 :: x5 :: x6 :: x7 :: x8 :: x9 :: x10 :: x11 :: x12 :: x13 :: x14 :: x15 :: x16 :: x17 :: x18 :: x19 :: x20 :: x21 :: some d :: l) S Q E := k
theorem set22 {x0 x1 x2 x3 x4 x5 x6 x7 x8 x9 x10 x11 x12 x13 x14 x15 x16 x17 x18 x19 x20 x21 : Option D} {y : Option D} {l : Ev} {d : D} {S : Sto} {nx : Ev → Sto → Prop} (k : nx (x0 :: x1 :: x2 :: x3 :: x4 :: x5 :: x6 :: x7 :: x8 :: x9 :: x10 :: x11 :: x12 :: x13 :: x14 :: x15 :: x16 :: x17 :: x18 :: x19 :: x20 :: x21 :: some d :: l) S) : asgK S (.nm 22) d (x0 :: x1 :: x2 :: x3 :: x4 :: x5 :: x6 :: x7 :: x8 :: x9 :: x10 :: x11 :: x12 :: x13 :: x14 :: x15 :: x16 :: x17 :: x18 :: x19 :: x20 :: x21 :: y :: l) nx := k
theorem uns22 {x0 x1 x2 x3 x4 x5 x6 x7 x8 x9 x10 x11 x12 x13 x14 x15 x16 x17 x18 x19 x20 x21 : Option D} {y : Option D} {l : Ev} {k : Ev → Prop} (h : k (x0 :: x1 :: x2 :: x3 :: x4 :: x5 :: x6 :: x7 :: x8 :: x9 :: x10 :: x11 :: x12 :: x13 :: x14 :: x15 :: x16 :: x17 :: x18 :: x19 :: x20 :: x21 :: none :: l)) : unsK 22 (x0 :: x1 :: x2 :: x3 :: x4 :: x5 :: x6 :: x7 :: x8 :: x9 :: x10 :: x11 :: x12 :: x13 :: x14 :: x15 :: x16 :: x17 :: x18 :: x19 :: x20 :: x21 :: y :: l) k := h
theorem aug22 {x0 x1 x2 x3 x4 x5 x6 x7 x8 x9 x10 x11 x12 x13 x14 x15 x16 x17 x18 x19 x20 x21 : Option D} {l : Ev} {d : D} {S : Sto} {te : TEd} {f : F2} {nx bk ct : Ev → Sto → Prop} {rt : DK} {ex : Xc → Ev → Sto → Prop} (k : te (x0 :: x1 :: x2 :: x3 :: x4 :: x5 :: x6 :: x7 :: x8 :: x9 :: x10 :: x11 :: x12 :: x13 :: x14 :: x15 :: x16 :: x17 :: x18 :: x19 :: x20 :: x21 :: some d :: l) S (fun y S1 => f d y S1 fun z S2 => nx (x0 :: x1 :: x2 :: x3 :: x4 :: x5 :: x6 :: x7 :: x8 :: x9 :: x10 :: x11 :: x12 :: x13 :: x14 :: x15 :: x16 :: x17 :: x18 :: x19 :: x20 :: x21 :: some z :: l) S2) fun x S1 => ex x (x0 :: x1 :: x2 :: x3 :: x4 :: x5 :: x6 :: x7 :: x8 :: x9 :: x10 :: x11 :: x12 :: x13 :: x14 :: x15 :: x16 :: x17 :: x18 :: x19 :: x20 :: x21 :: some d :: l) S1) : sAug 22 te f (x0 :: x1 :: x2 :: x3 :: x4 :: x5 :: x6 :: x7 :: x8 :: x9 :: x10 :: x11 :: x12 :: x13 :: x14 :: x15 :: x16 :: x17 :: x18 :: x19 :: x20 :: x21 :: some d :: l) S ⟨nx, rt, bk, ct, ex⟩ := k
theorem vr23 {x0 x1 x2 x3 x4 x5 x6 x7 x8 x9 x10 x11 x12 x13 x14 x15 x16 x17 x18 x19 x20 x21 x22 : Option D} {l : Ev} {d : D} {S : Sto} {Q : DK} {E : EK} (k : Q d S) : vr 23 (x0 :: x1 :: x2 :: x3 :: x4 :: x5 :: x6 :: x7 :: x8 :: x9 :: x10 :: x11 :: x12 :: x13 :: x14 :: x15 :: x16 :: x17 :: x18 :: x19 :: x20 :: x21 :: x22 :: some d :: l) S Q E := k
theorem set23 {x0 x1 x2 x3 x4 x5 x6 x7 x8 x9 x10 x11 x12 x13 x14 x15 x16 x17 x18 x19 x20 x21 x22 : Option D} {y : Option D} {l : Ev} {d : D} {S : Sto} {nx : Ev → Sto → Prop} (k : nx (x0 :: x1 :: x2 :: x3 :: x4 :: x5 :: x6 :: x7 :: x8 :: x9 :: x10 :: x11 :: x12 :: x13 :: x14 :: x15 :: x16 :: x17 :: x18 :: x19 :: x20 :: x21 :: x22 :: some d :: l) S) : asgK S (.nm 23) d (x0 :: x1 :: x2 :: x3 :: x4 :: x5 :: x6 :: x7 :: x8 :: x9 :: x10 :: x11 :: x12 :: x13 :: x14 :: x15 :: x16 :: x17 :: x18 :: x19 :: x20 :: x21 :: x22 :: y :: l) nx := k
theorem uns23 {x0 x1 x2 x3 x4 x5 x6 x7 x8 x9 x10 x11 x12 x13 x14 x15 x16 x17 x18 x19 x20 x21 x22 : Option D} {y : Option D} {l : Ev} {k : Ev → Prop} (h : k (x0 :: x1 :: x2 :: x3 :: x4 :: x5 :: x6 :: x7 :: x8 :: x9 :: x10 :: x11 :: x12 :: x13 :: x14 :: x15 :: x16 :: x17 :: x18 :: x19 :: x20 :: x21 :: x22 :: none :: l)) : unsK 23 (x0 :: x1 :: x2 :: x3 :: x4 :: x5 :: x6 :: x7 :: x8 :: x9 :: x10 :: x11 :: x12 :: x13 :: x14 :: x15 :: x16 :: x17 :: x18 :: x19 :: x20 :: x21 :: x22 :: y :: l) k := h
theorem aug23 {x0 x1 x2 x3 x4 x5 x6 x7 x8 x9 x10 x11 x12 x13 x14 x15 x16 x17 x18 x19 x20 x21 x22 : Option D} {l : Ev} {d : D} {S : Sto} {te : TEd} {f : F2} {nx bk ct : Ev → Sto → Prop} {rt : DK} {ex : Xc → Ev → Sto → Prop} (k : te (x0 :: x1 :: x2 :: x3 :: x4 :: x5 :: x6 :: x7 :: x8 :: x9 :: x10 :: x11 :: x12 :: x13 :: x14 :: x15 :: x16 :: x17 :: x18 :: x19 :: x20 :: x21 :: x22 :: some d :: l) S (fun y S1 => f d y S1 fun z S2 => nx (x0 :: x1 :: x2 :: x3 :: x4 :: x5 :: x6 :: x7 :: x8 :: x9 :: x10 :: x11 :: x12 :: x13 :: x14 :: x15 :: x16 :: x17 :: x18 :: x19 :: x20 :: x21 :: x22 :: some z :: l) S2) fun x S1 => ex x (x0 :: x1 :: x2 :: x3 :: x4 :: x5 :: x6 :: x7 :: x8 :: x9 :: x10 :: x11 :: x12 :: x13 :: x14 :: x15 :: x16 :: x17 :: x18 :: x19 :: x20 :: x21 :: x22 :: some d :: l) S1) : sAug 23 te f (x0 :: x1 :: x2 :: x3 :: x4 :: x5 :: x6 :: x7 :: x8 :: x9 :: x10 :: x11 :: x12 :: x13 :: x14 :: x15 :: x16 :: x17 :: x18 :: x19 :: x20 :: x21 :: x22 :: some d :: l) S ⟨nx, rt, bk, ct, ex⟩ := k
theorem ixT0 {ds : List D} {d : D} {S : Sto} {Q : DK} (k : Q d S) : fIx (.tup (d :: ds)) (.int 0) S Q := ixT (atI_nat (j := 0) rfl) k
theorem ixL0 {ds : List D} {d : D} {S : Sto} {Q : DK} (k : Q d S) : fIx (.lst (d :: ds)) (.int 0) S Q := ixL (atI_nat (j := 0) rfl) k
theorem ixT1 {x0 : D} {ds : List D} {d : D} {S : Sto} {Q : DK} (k : Q d S) : fIx (.tup (x0 :: d :: ds)) (.int 1) S Q := ixT (atI_nat (j := 1) rfl) k
theorem ixL1 {x0 : D} {ds : List D} {d : D} {S : Sto} {Q : DK} (k : Q d S) : fIx (.lst (x0 :: d :: ds)) (.int 1) S Q := ixL (atI_nat (j := 1) rfl) k
theorem ixT2 {x0 x1 : D} {ds : List D} {d : D} {S : Sto} {Q : DK} (k : Q d S) : fIx (.tup (x0 :: x1 :: d :: ds)) (.int 2) S Q := ixT (atI_nat (j := 2) rfl) k
theorem ixL2 {x0 x1 : D} {ds : List D} {d : D} {S : Sto} {Q : DK} (k : Q d S) : fIx (.lst (x0 :: x1 :: d :: ds)) (.int 2) S Q := ixL (atI_nat (j := 2) rfl) k
theorem ixT3 {x0 x1 x2 : D} {ds : List D} {d : D} {S : Sto} {Q : DK} (k : Q d S) : fIx (.tup (x0 :: x1 :: x2 :: d :: ds)) (.int 3) S Q := ixT (atI_nat (j := 3) rfl) k
theorem ixL3 {x0 x1 x2 : D} {ds : List D} {d : D} {S : Sto} {Q : DK} (k : Q d S) : fIx (.lst (x0 :: x1 :: x2 :: d :: ds)) (.int 3) S Q := ixL (atI_nat (j := 3) rfl) k
theorem ixT4 {x0 x1 x2 x3 : D} {ds : List D} {d : D} {S : Sto} {Q : DK} (k : Q d S) : fIx (.tup (x0 :: x1 :: x2 :: x3 :: d :: ds)) (.int 4) S Q := ixT (atI_nat (j := 4) rfl) k
theorem ixL4 {x0 x1 x2 x3 : D} {ds : List D} {d : D} {S : Sto} {Q : DK} (k : Q d S) : fIx (.lst (x0 :: x1 :: x2 :: x3 :: d :: ds)) (.int 4) S Q := ixL (atI_nat (j := 4) rfl) k
theorem ixT5 {x0 x1 x2 x3 x4 : D} {ds : List D} {d : D} {S : Sto} {Q : DK} (k : Q d S) : fIx (.tup (x0 :: x1 :: x2 :: x3 :: x4 :: d :: ds)) (.int 5) S Q := ixT (atI_nat (j := 5) rfl) k
theorem ixL5 {x0 x1 x2 x3 x4 : D} {ds : List D} {d : D} {S : Sto} {Q : DK} (k : Q d S) : fIx (.lst (x0 :: x1 :: x2 :: x3 :: x4 :: d :: ds)) (.int 5) S Q := ixL (atI_nat (j := 5) rfl) k
theorem ixT6 {x0 x1 x2 x3 x4 x5 : D} {ds : List D} {d : D} {S : Sto} {Q : DK} (k : Q d S) : fIx (.tup (x0 :: x1 :: x2 :: x3 :: x4 :: x5 :: d :: ds)) (.int 6) S Q := ixT (atI_nat (j := 6) rfl) k
theorem ixL6 {x0 x1 x2 x3 x4 x5 : D} {ds : List D} {d : D} {S : Sto} {Q : DK} (k : Q d S) : fIx (.lst (x0 :: x1 :: x2 :: x3 :: x4 :: x5 :: d :: ds)) (.int 6) S Q := ixL (atI_nat (j := 6) rfl) k
theorem ixT7 {x0 x1 x2 x3 x4 x5 x6 : D} {ds : List D} {d : D} {S : Sto} {Q : DK} (k : Q d S) : fIx (.tup (x0 :: x1 :: x2 :: x3 :: x4 :: x5 :: x6 :: d :: ds)) (.int 7) S Q := ixT (atI_nat (j := 7) rfl) k
theorem ixL7 {x0 x1 x2 x3 x4 x5 x6 : D} {ds : List D} {d : D} {S : Sto} {Q : DK} (k : Q d S) : fIx (.lst (x0 :: x1 :: x2 :: x3 :: x4 :: x5 :: x6 :: d :: ds)) (.int 7) S Q := ixL (atI_nat (j := 7) rfl) k
theorem startup0 {r : List D} {gs : List Tg} {env : Ev} {S : Sto} {nx : Ev → Sto → Prop} (k : asgLK S gs [.lst r] env nx) : starK 0 0 gs (.tup (r)) env S nx := starG rfl (by simp) (by simp [starD]) k
theorem starlst0 {r : List D} {gs : List Tg} {env : Ev} {S : Sto} {nx : Ev → Sto → Prop} (k : asgLK S gs [.lst r] env nx) : starK 0 0 gs (.lst (r)) env S nx := starG rfl (by simp) (by simp [starD]) k
theorem startup1 {x0 : D} {r : List D} {gs : List Tg} {env : Ev} {S : Sto} {nx : Ev → Sto → Prop} (k : asgLK S gs [x0, .lst r] env nx) : starK 1 0 gs (.tup (x0 :: r)) env S nx := starG rfl (by simp) (by simp [starD]) k
theorem starlst1 {x0 : D} {r : List D} {gs : List Tg} {env : Ev} {S : Sto} {nx : Ev → Sto → Prop} (k : asgLK S gs [x0, .lst r] env nx) : starK 1 0 gs (.lst (x0 :: r)) env S nx := starG rfl (by simp) (by simp [starD]) k
theorem startup2 {x0 x1 : D} {r : List D} {gs : List Tg} {env : Ev} {S : Sto} {nx : Ev → Sto → Prop} (k : asgLK S gs [x0, x1, .lst r] env nx) : starK 2 0 gs (.tup (x0 :: x1 :: r)) env S nx := starG rfl (by simp) (by simp [starD]) k
theorem starlst2 {x0 x1 : D} {r : List D} {gs : List Tg} {env : Ev} {S : Sto} {nx : Ev → Sto → Prop} (k : asgLK S gs [x0, x1, .lst r] env nx) : starK 2 0 gs (.lst (x0 :: x1 :: r)) env S nx := starG rfl (by simp) (by simp [starD]) k
theorem startup3 {x0 x1 x2 : D} {r : List D} {gs : List Tg} {env : Ev} {S : Sto} {nx : Ev → Sto → Prop} (k : asgLK S gs [x0, x1, x2, .lst r] env nx) : starK 3 0 gs (.tup (x0 :: x1 :: x2 :: r)) env S nx := starG rfl (by simp) (by simp [starD]) k
theorem starlst3 {x0 x1 x2 : D} {r : List D} {gs : List Tg} {env : Ev} {S : Sto} {nx : Ev → Sto → Prop} (k : asgLK S gs [x0, x1, x2, .lst r] env nx) : starK 3 0 gs (.lst (x0 :: x1 :: x2 :: r)) env S nx := starG rfl (by simp) (by simp [starD]) k
theorem startup4 {x0 x1 x2 x3 : D} {r : List D} {gs : List Tg} {env : Ev} {S : Sto} {nx : Ev → Sto → Prop} (k : asgLK S gs [x0, x1, x2, x3, .lst r] env nx) : starK 4 0 gs (.tup (x0 :: x1 :: x2 :: x3 :: r)) env S nx := starG rfl (by simp) (by simp [starD]) k
theorem starlst4 {x0 x1 x2 x3 : D} {r : List D} {gs : List Tg} {env : Ev} {S : Sto} {nx : Ev → Sto → Prop} (k : asgLK S gs [x0, x1, x2, x3, .lst r] env nx) : starK 4 0 gs (.lst (x0 :: x1 :: x2 :: x3 :: r)) env S nx := starG rfl (by simp) (by simp [starD]) k
theorem entup0 {S : Sto} {Q : List D → Sto → Prop} (k : Q [] S) : enumK (.tup []) S Q := k
theorem enlst0 {S : Sto} {Q : List D → Sto → Prop} (k : Q [] S) : enumK (.lst []) S Q := k
theorem entup1 {x0 : D} {S : Sto} {Q : List D → Sto → Prop} (k : Q [.tup [.int 0, x0]] S) : enumK (.tup [x0]) S Q := k
theorem enlst1 {x0 : D} {S : Sto} {Q : List D → Sto → Prop} (k : Q [.tup [.int 0, x0]] S) : enumK (.lst [x0]) S Q := k
theorem entup2 {x0 x1 : D} {S : Sto} {Q : List D → Sto → Prop} (k : Q [.tup [.int 0, x0], .tup [.int 1, x1]] S) : enumK (.tup [x0, x1]) S Q := k
theorem enlst2 {x0 x1 : D} {S : Sto} {Q : List D → Sto → Prop} (k : Q [.tup [.int 0, x0], .tup [.int 1, x1]] S) : enumK (.lst [x0, x1]) S Q := k
theorem entup3 {x0 x1 x2 : D} {S : Sto} {Q : List D → Sto → Prop} (k : Q [.tup [.int 0, x0], .tup [.int 1, x1], .tup [.int 2, x2]] S) : enumK (.tup [x0, x1, x2]) S Q := k
theorem enlst3 {x0 x1 x2 : D} {S : Sto} {Q : List D → Sto → Prop} (k : Q [.tup [.int 0, x0], .tup [.int 1, x1], .tup [.int 2, x2]] S) : enumK (.lst [x0, x1, x2]) S Q := k
theorem entup4 {x0 x1 x2 x3 : D} {S : Sto} {Q : List D → Sto → Prop} (k : Q [.tup [.int 0, x0], .tup [.int 1, x1], .tup [.int 2, x2], .tup [.int 3, x3]] S) : enumK (.tup [x0, x1, x2, x3]) S Q := k
theorem enlst4 {x0 x1 x2 x3 : D} {S : Sto} {Q : List D → Sto → Prop} (k : Q [.tup [.int 0, x0], .tup [.int 1, x1], .tup [.int 2, x2], .tup [.int 3, x3]] S) : enumK (.lst [x0, x1, x2, x3]) S Q := k
theorem entup5 {x0 x1 x2 x3 x4 : D} {S : Sto} {Q : List D → Sto → Prop} (k : Q [.tup [.int 0, x0], .tup [.int 1, x1], .tup [.int 2, x2], .tup [.int 3, x3], .tup [.int 4, x4]] S) : enumK (.tup [x0, x1, x2, x3, x4]) S Q := k
theorem enlst5 {x0 x1 x2 x3 x4 : D} {S : Sto} {Q : List D → Sto → Prop} (k : Q [.tup [.int 0, x0], .tup [.int 1, x1], .tup [.int 2, x2], .tup [.int 3, x3], .tup [.int 4, x4]] S) : enumK (.lst [x0, x1, x2, x3, x4]) S Q := k
theorem entup6 {x0 x1 x2 x3 x4 x5 : D} {S : Sto} {Q : List D → Sto → Prop} (k : Q [.tup [.int 0, x0], .tup [.int 1, x1], .tup [.int 2, x2], .tup [.int 3, x3], .tup [.int 4, x4], .tup [.int 5, x5]] S) : enumK (.tup [x0, x1, x2, x3, x4, x5]) S Q := k
theorem enlst6 {x0 x1 x2 x3 x4 x5 : D} {S : Sto} {Q : List D → Sto → Prop} (k : Q [.tup [.int 0, x0], .tup [.int 1, x1], .tup [.int 2, x2], .tup [.int 3, x3], .tup [.int 4, x4], .tup [.int 5, x5]] S) : enumK (.lst [x0, x1, x2, x3, x4, x5]) S Q := k
theorem slfT1 {x0 : D} {r : List D} {S : Sto} {Q : DK} (k : Q (.tup r) S) : fSl (.tup (x0 :: r)) (some 1) none S Q := slT (by unfold Bl.cutD HT.sIx; simp) k
theorem sltT1 {x0 : D} {r : List D} {S : Sto} {Q : DK} (k : Q (.tup [x0]) S) : fSl (.tup (x0 :: r)) none (some 1) S Q := slT (by unfold Bl.cutD HT.sIx; simp) k
theorem slfT2 {x0 x1 : D} {r : List D} {S : Sto} {Q : DK} (k : Q (.tup r) S) : fSl (.tup (x0 :: x1 :: r)) (some 2) none S Q := slT (by unfold Bl.cutD HT.sIx; simp) k
theorem sltT2 {x0 x1 : D} {r : List D} {S : Sto} {Q : DK} (k : Q (.tup [x0, x1]) S) : fSl (.tup (x0 :: x1 :: r)) none (some 2) S Q := slT (by unfold Bl.cutD HT.sIx; simp) k
theorem slfT3 {x0 x1 x2 : D} {r : List D} {S : Sto} {Q : DK} (k : Q (.tup r) S) : fSl (.tup (x0 :: x1 :: x2 :: r)) (some 3) none S Q := slT (by unfold Bl.cutD HT.sIx; simp) k
theorem sltT3 {x0 x1 x2 : D} {r : List D} {S : Sto} {Q : DK} (k : Q (.tup [x0, x1, x2]) S) : fSl (.tup (x0 :: x1 :: x2 :: r)) none (some 3) S Q := slT (by unfold Bl.cutD HT.sIx; simp) k
theorem slfT4 {x0 x1 x2 x3 : D} {r : List D} {S : Sto} {Q : DK} (k : Q (.tup r) S) : fSl (.tup (x0 :: x1 :: x2 :: x3 :: r)) (some 4) none S Q := slT (by unfold Bl.cutD HT.sIx; simp) k
theorem sltT4 {x0 x1 x2 x3 : D} {r : List D} {S : Sto} {Q : DK} (k : Q (.tup [x0, x1, x2, x3]) S) : fSl (.tup (x0 :: x1 :: x2 :: x3 :: r)) none (some 4) S Q := slT (by unfold Bl.cutD HT.sIx; simp) k
theorem slfL1 {x0 : D} {r : List D} {S : Sto} {Q : DK} (k : Q (.lst r) S) : fSl (.lst (x0 :: r)) (some 1) none S Q := slL (by unfold Bl.cutD HT.sIx; simp) k
theorem sltL1 {x0 : D} {r : List D} {S : Sto} {Q : DK} (k : Q (.lst [x0]) S) : fSl (.lst (x0 :: r)) none (some 1) S Q := slL (by unfold Bl.cutD HT.sIx; simp) k
theorem slfL2 {x0 x1 : D} {r : List D} {S : Sto} {Q : DK} (k : Q (.lst r) S) : fSl (.lst (x0 :: x1 :: r)) (some 2) none S Q := slL (by unfold Bl.cutD HT.sIx; simp) k
theorem sltL2 {x0 x1 : D} {r : List D} {S : Sto} {Q : DK} (k : Q (.lst [x0, x1]) S) : fSl (.lst (x0 :: x1 :: r)) none (some 2) S Q := slL (by unfold Bl.cutD HT.sIx; simp) k
theorem slfL3 {x0 x1 x2 : D} {r : List D} {S : Sto} {Q : DK} (k : Q (.lst r) S) : fSl (.lst (x0 :: x1 :: x2 :: r)) (some 3) none S Q := slL (by unfold Bl.cutD HT.sIx; simp) k
theorem sltL3 {x0 x1 x2 : D} {r : List D} {S : Sto} {Q : DK} (k : Q (.lst [x0, x1, x2]) S) : fSl (.lst (x0 :: x1 :: x2 :: r)) none (some 3) S Q := slL (by unfold Bl.cutD HT.sIx; simp) k
theorem slfL4 {x0 x1 x2 x3 : D} {r : List D} {S : Sto} {Q : DK} (k : Q (.lst r) S) : fSl (.lst (x0 :: x1 :: x2 :: x3 :: r)) (some 4) none S Q := slL (by unfold Bl.cutD HT.sIx; simp) k
theorem sltL4 {x0 x1 x2 x3 : D} {r : List D} {S : Sto} {Q : DK} (k : Q (.lst [x0, x1, x2, x3]) S) : fSl (.lst (x0 :: x1 :: x2 :: x3 :: r)) none (some 4) S Q := slL (by unfold Bl.cutD HT.sIx; simp) k
theorem startup_2 {x0 x1 : D} {gs : List Tg} {env : Ev} {S : Sto} {nx : Ev → Sto → Prop} (k : asgLK S gs [.lst [], x0, x1] env nx) : starK 0 2 gs (.tup [x0, x1]) env S nx := starG rfl (by simp) rfl k
theorem starlst_2 {x0 x1 : D} {gs : List Tg} {env : Ev} {S : Sto} {nx : Ev → Sto → Prop} (k : asgLK S gs [.lst [], x0, x1] env nx) : starK 0 2 gs (.lst [x0, x1]) env S nx := starG rfl (by simp) rfl k
theorem startup_3 {x0 x1 x2 : D} {gs : List Tg} {env : Ev} {S : Sto} {nx : Ev → Sto → Prop} (k : asgLK S gs [.lst [x0], x1, x2] env nx) : starK 0 2 gs (.tup [x0, x1, x2]) env S nx := starG rfl (by simp) rfl k
theorem starlst_3 {x0 x1 x2 : D} {gs : List Tg} {env : Ev} {S : Sto} {nx : Ev → Sto → Prop} (k : asgLK S gs [.lst [x0], x1, x2] env nx) : starK 0 2 gs (.lst [x0, x1, x2]) env S nx := starG rfl (by simp) rfl k
theorem startup_4 {x0 x1 x2 x3 : D} {gs : List Tg} {env : Ev} {S : Sto} {nx : Ev → Sto → Prop} (k : asgLK S gs [.lst [x0, x1], x2, x3] env nx) : starK 0 2 gs (.tup [x0, x1, x2, x3]) env S nx := starG rfl (by simp) rfl k
theorem starlst_4 {x0 x1 x2 x3 : D} {gs : List Tg} {env : Ev} {S : Sto} {nx : Ev → Sto → Prop} (k : asgLK S gs [.lst [x0, x1], x2, x3] env nx) : starK 0 2 gs (.lst [x0, x1, x2, x3]) env S nx := starG rfl (by simp) rfl k
end Go

namespace Lb
open PySem PySem.Spec PyProof.Rows L2 Bl
/-! ### == of a thing and itself; what may be compared -/
mutual
theorem eqD_refl : ∀ d : D, pl d = true → eqD d d = true
  | .non, _ => rfl
  | .bl b, _ => by cases b <;> rfl
  | .int i, _ => by show (i == i) = true; exact beq_self_eq_true i
  | .str x, _ => by show (x == x) = true; exact beq_self_eq_true x
  | .tup ds, h => eqL_refl ds h
  | .lst ds, h => eqL_refl ds h
  | .ref _, h => by cases h
  | .obj _, h => by cases h
theorem eqL_refl : ∀ ds : List D, plL ds = true → PyData.eqvAll (pyL ds) (pyL ds) = true
  | [], _ => rfl
  | d :: ds, h => by
    obtain ⟨h1, h2⟩ := Bool.and_eq_true_iff.mp (show (pl d && plL ds) = true from h)
    show (PyData.eqv (py d) (py d) && PyData.eqvAll (pyL ds) (pyL ds)) = true
    rw [show PyData.eqv (py d) (py d) = true from eqD_refl d h1, eqL_refl ds h2]
    rfl
end
structure okN (n : Nat) (d : D) : Prop where
  p : pl d = true
  c : (py d).canLay0 = true
  d : (py d).depth ≤ n
theorem okN.ok {n : Nat} {d : D} (h : okN n d) (hn : n ≤ 64) : okD d := ⟨h.p, by
  unfold SeqAt.shaped
  rw [h.c]
  exact decide_eq_true (Nat.le_trans h.d hn)⟩
theorem okN.mono {m n : Nat} {d : D} (h : okN m d) (l : m ≤ n) : okN n d := ⟨h.p, h.c, Nat.le_trans h.d l⟩
theorem okN_int {n : Nat} (i : Int) : okN n (.int i) := ⟨rfl, rfl, Nat.zero_le _⟩
structure okNs (n : Nat) (ds : List D) : Prop where
  p : plL ds = true
  c : PyData.canLayAll0 (pyL ds) = true
  d : PyData.depthAll (pyL ds) ≤ n
theorem okNs_nil {n : Nat} : okNs n [] := ⟨rfl, rfl, Nat.zero_le _⟩
theorem okNs_cons {n : Nat} {d : D} {ds : List D} (h : okN n d) (k : okNs n ds) : okNs n (d :: ds) := ⟨by
  show (pl d && plL ds) = true
  rw [h.p, k.p]; rfl, by
  show (PyData.canLay0 (py d) && PyData.canLayAll0 (pyL ds)) = true
  rw [h.c, k.c]; rfl, by
  show max (PyData.depth (py d)) (PyData.depthAll (pyL ds)) ≤ n
  exact Nat.max_le.mpr ⟨h.d, k.d⟩⟩
theorem okN_tup {n : Nat} {ds : List D} (h : okNs n ds) : okN (n + 1) (.tup ds) := ⟨h.p, h.c, by
  show PyData.depthAll (pyL ds) + 1 ≤ n + 1
  have := h.d
  omega⟩
theorem okN_pr {n : Nat} (a b : Int) : okN (n + 1) (.tup [.int a, .int b]) := okN_tup (okNs_cons (okN_int _) (okNs_cons (okN_int _) okNs_nil))
theorem ne_refl {d : D} {n : Nat} {S : Sto} {Q : DK} (h : okN n d) (hn : n ≤ 64) (k : Q (.bl false) S) : fNe d d S Q := ⟨h.ok hn, h.ok hn, by rw [eqD_refl d h.p]; exact k⟩
end Lb

namespace K01
open PySem PySem.Spec PyProof.Rows L2 Bl Lb
def g_frac_bottom {α : Type} (us ws : List α) : List α := match us, ws with
  | [a0], [b_bottom] => [a0, b_bottom]
  | _, _ => us ++ ws
def g_frac_bottom_top {α : Type} (us ws : List α) : List α := match us, ws with
  | [], [b_bottom, b_top] => [b_top, b_bottom]
  | _, _ => us ++ ws
def t_frac : TSd := sSeq (sTryDiv (vr 1) (dB bAbs (aCons (vr 1) (aNil))) 2 3 "NoFraction") (sSeq (sAsg (dTwo (dCall m_common 2 0 (fun ds _ => ds) (aCons (vr 0) (aCons (vr 1) (aNil))) aNil) (vr 2) fMul) (.nm 4)) (sRet (dTup (aCons (dTwo (vr 0) (vr 4) fDiv) (aCons (dTwo (vr 1) (vr 4) fDiv) (aNil))))))
def m_frac : TFd := fnD 2 5 t_frac
theorem e_frac {a0 a1 : D} {S : Sto} {Q : DK} {E : EK} (k : t_frac [some a0, some a1, none, none, none] S ⟨fun _ S1 => Q .non S1, Q, fun _ _ => False, fun _ _ => False, fun x _ S1 => E x S1⟩) : m_frac [a0, a1] S Q E := ⟨rfl, k⟩
def t_l_refused : TSd := sSeq (sTryAs (sDrop (dCall m_frac 2 0 (fun ds _ => ds ++ []) (aCons (vr 0) (aCons (cn (.int 0)) (aNil))) aNil)) (sbOne "NoFraction") 1 (fun a _ => sSeq (sAsg (dIsE 1 a (some false)) (.nm 2)) (sRet (eIf (tbl (dIsE 1 a (some true))) (vNot (vr 2)) (cn (.bl false)))))) (sRet (cn (.bl false)))
def m_l_refused : TFd := fnD 1 3 t_l_refused
theorem e_l_refused {a0 : D} {S : Sto} {Q : DK} {E : EK} (k : t_l_refused [some a0, none, none] S ⟨fun _ S1 => Q .non S1, Q, fun _ _ => False, fun _ _ => False, fun x _ S1 => E x S1⟩) : m_l_refused [a0] S Q E := ⟨rfl, k⟩
def t_law : TSd := sSeq (sFor (iR1 (aCons (dTwo (cn (.int 1)) (dB bMin (aCons (cn (.int 6)) (aCons (dB bLen (aCons (vr 0) (aNil))) (aNil)))) fAdd) (aNil))) (.nm 1) (sSeq (sAsg (dCall m_l_bag 2 0 (fun ds _ => ds) (aCons (vr 0) (aCons (vr 1) (aNil))) aNil) (.nm 2)) (sSeq (sAsg (dLstR (aNil)) (.nm 3)) (sSeq (sFor (iR1 (aCons (cn (.int 2)) (aNil))) (.nm 4) (sSeq (sAsg (dTwo (dLst (aCons (cn (.int 3)) (aCons (cn (.int 10)) (aCons (cn (.int 1000)) (aCons (dTwo (cn (.int 10)) (cn (.int 30)) fPow) (aNil)))))) (dCall m_l_take 2 0 (fun ds _ => ds) (aCons (vr 2) (aCons (cn (.int 4)) (aNil))) aNil) fIx) (.nm 5)) (sDrop (dLm gApp (vr 3) (aCons (dTwo (dCall m_l_take 2 0 (fun ds _ => ds) (aCons (vr 2) (aCons (vr 5) (aNil))) aNil) (dTwo (cn (.int 1)) (dTwo (cn (.int 2)) (dCall m_l_take 2 0 (fun ds _ => ds) (aCons (vr 2) (aCons (cn (.int 2)) (aNil))) aNil) fMul) fSub) fMul) (aNil)))))) (sSeq (sAsg (vr 3) (.tp (.nm 6 :: .nm 7 :: []))) (sSeq (sIf (tOrD (tNotD (ttr (dCall m_l_refused 1 0 (fun ds _ => ds) (aCons (vr 6) (aNil)) aNil))) (tOrD (tbl (dTwo (dCall m_frac 1 0 (fun ds _ => ds ++ [D.int 1]) (aCons (vr 6) (aNil)) aNil) (dTup (aCons (vr 6) (aCons (cn (.int 1)) (aNil)))) fNe)) (tbl (dTwo (dCall m_frac 1 1 (fun a b => g_frac_bottom a b) (aCons (vr 6) (aNil)) (aCons (cn (.int 1)) (aNil))) (dTup (aCons (vr 6) (aCons (cn (.int 1)) (aNil)))) fNe)))) (sRet (cn (.bl false))) (sNx)) (sIf (tbl (dTwo (vr 7) (cn (.int 0)) fNe)) (sSeq (sAsg (dCall m_frac 2 0 (fun ds _ => ds ++ []) (aCons (vr 6) (aCons (vr 7) (aNil))) aNil) (.nm 8)) (sSeq (sIf (tOrD (tbl (dTwo (vr 8) (dCall m_l_low 2 0 (fun ds _ => ds) (aCons (vr 6) (aCons (vr 7) (aNil))) aNil) fNe)) (tOrD (tNotD (ttr (dIsi "tuple" (vr 8)))) (tbl (dTwo (dCall m_frac 0 2 (fun a b => g_frac_bottom_top a b) aNil (aCons (vr 7) (aCons (vr 6) (aNil)))) (vr 8) fNe)))) (sRet (cn (.bl false))) (sNx)) (sIf (tOrD (tNotD (ttr (dCall m_l_whole 1 0 (fun ds _ => ds) (aCons (dTwo (vr 8) (cn (.int 0)) fIx) (aNil)) aNil))) (tNotD (ttr (dCall m_l_whole 1 0 (fun ds _ => ds) (aCons (dTwo (vr 8) (cn (.int 1)) fIx) (aNil)) aNil)))) (sRet (cn (.bl false))) (sNx)))) (sNx)))))))) (sRet (cn (.bl true)))
def m_law : TFd := fnD 1 9 t_law
theorem e_law {a0 : D} {S : Sto} {Q : DK} {E : EK} (k : t_law [some a0, none, none, none, none, none, none, none, none] S ⟨fun _ S1 => Q .non S1, Q, fun _ _ => False, fun _ _ => False, fun x _ S1 => E x S1⟩) : m_law [a0] S Q E := ⟨rfl, k⟩
end K01

namespace K01
open PySem PySem.Spec PyProof.Rows L2 Bl Lb
local macro_rules | `(tactic| walk_at "mo") => `(tactic| (repeat' first
  | exact moVr _ | exact moCn _ | exact moYesD | exact moNilA | exact moONone | exact moAdd | exact moSub | exact moMul | exact moDiv | exact moMod | exact moPow | exact moShl | exact moLt | exact moLe | exact moGt | exact moGe | exact moEq | exact moNe | exact moIs | exact moIsNot | exact moIn _ | exact moIx | exact moCat | exact moRep01 | exact moCatR | exact moNeR | refine moSortSet ?_
  | (with_reducible refine moTup ?_) | (with_reducible refine moLst ?_) | refine moTwo ?_ ?_ ?_ | refine moConsA ?_ ?_ | refine moTup ?_ | refine moLst ?_ | refine moTbl ?_ | refine moTtr ?_ | refine moAndD ?_ ?_ | refine moOrD ?_ ?_ | refine moNotD ?_ | refine moVOf ?_ | refine moEIf ?_ ?_ ?_ | refine moNeg ?_ | refine moChain ?_ ?_ ?_ ?_ ?_ | refine moSl ?_ ?_ ?_ | refine moOSome ?_ | refine moIsi ?_
  | refine moCall ?_ ?_ ?_ | refine moLc ?_ ?_ ?_ | refine moRvs ?_ ?_ | refine moLcG ?_ ?_ ?_ | refine moIVal ?_ | refine moR1 ?_ | refine moR2 ?_ | refine moEnumD ?_ | refine moRevD ?_ | refine moZipD ?_ ?_ | refine moZipSD ?_ ?_ | refine moZipRD ?_ ?_ | refine moGetL ?_ ?_ ?_ | refine moB (cd_len (X := X)).mo ?_ | refine moB (cd_abs (X := X)).mo ?_ | refine moB (cd_int (X := X)).mo ?_ | refine moB (cd_tup (X := X)).mo ?_ | refine moB (cd_lst (X := X)).mo ?_))
section
variable {P : Program} {w : World} {K : PySem.W.Frag} {mg : Str → Option Value} {base : Heap}
theorem body_common (T : Tp fa fn bx K mg) {X : Cx} {W : WX} (d : JD P w K mg base nm_common (defScope (top 9)) vw_common 0 X W) : JB X W (defBody (top 9)) t_common :=
  jb_cons (js_par d.toJC 0 1 rfl rfl (by decide) (d.toJC.sC.loc 0 (mm 0) _ rfl) (d.toJC.sC.loc 1 (mm 1) _ rfl) (ja_cons (je_callB d.toJC cd_abs (mm 0) (T.free 11) (by decide +kernel) (ja_cons (jv d.toJC 0 (mm 0) rfl) (ja_nil))) (ja_cons (je_callB d.toJC cd_abs (mm 0) (T.free 11) (by decide +kernel) (ja_cons (jv d.toJC 1 (mm 1) rfl) (ja_nil))) (ja_nil))) (sw2 d.toJC.kd (by rw [d.toJC.ss]; exact (d.toJC.sC.loc 0 (mm 0) _ rfl)) (by rw [d.toJC.ss]; exact (d.toJC.sC.loc 1 (mm 1) _ rfl)) rfl (by decide +kernel) rfl rfl rfl)) (jb_cons (js_while d (jt_cmp (opD_ne d.toJC.room) (jv d.toJC 1 (mm 1) rfl) (je_int) rfl) (jb_one (js_par d.toJC 0 1 rfl rfl (by decide) (d.toJC.sC.loc 0 (mm 0) _ rfl) (d.toJC.sC.loc 1 (mm 1) _ rfl) (ja_cons (jv d.toJC 1 (mm 1) rfl) (ja_cons (je_op opD_mod (jv d.toJC 0 (mm 0) rfl) (jv d.toJC 1 (mm 1) rfl)) (ja_nil))) (sw2 d.toJC.kd (by rw [d.toJC.ss]; exact (d.toJC.sC.loc 0 (mm 0) _ rfl)) (by rw [d.toJC.ss]; exact (d.toJC.sC.loc 1 (mm 1) _ rfl)) rfl (by decide +kernel) rfl rfl rfl)))) (jb_one (js_ret (jv d.toJC 0 (mm 0) rfl))))
theorem Tj_common (T : Tp fa fn bx K mg) : JF P w K mg base "common" 2 [] (fun ds _ => ds) 1 m_common := by
  obtain ⟨fd, F⟩ := T.sy.def_ 0 (d := d_common) rfl
  exact jf_mkN F fs_common sc_common (T.glo 14) ⟨rfl, by decide, by decide⟩ (fun _ _ _ _ _ _ us hl => match us, hl with | [_, _], _ => rfl) (fun X W d => body_common T d)
theorem body_frac (T : Tp fa fn bx K mg) {X : Cx} {W : WX} (d : JD P w K mg base nm_frac (defScope (top 10)) vw_frac 1 X W) : JB X W (defBody (top 10)) t_frac :=
  jb_cons (js_try_div d 2 3 rfl (mm 2) rfl (mm 3) (mm 3) (mm 1) (T.free 12) (mm 2) (T.sy.fact 13 rfl) (all_at T.bx 0 rfl) (T.glo 13) (fun _ _ d => jv d.toJC 1 (mm 1) rfl) (fun _ _ d => je_callB d.toJC cd_abs (mm 0) (T.free 11) (by decide +kernel) (ja_cons (jv d.toJC 1 (mm 1) rfl) (ja_nil)))) (jb_cons (js_set d.toJC 4 rfl (.inl (d.toJC.sC.loc 4 (mm 4) _ rfl)) (je_op opD_mul (je_call d.toJC (Tj_common T) (by decide) (mm 3) (ja_cons (jv d.toJC 0 (mm 0) rfl) (ja_cons (jv d.toJC 1 (mm 1) rfl) (ja_nil)))) (jv d.toJC 2 (mm 2) rfl))) (jb_one (js_ret (je_tup (ja_cons (je_op opD_div (jv d.toJC 0 (mm 0) rfl) (jv d.toJC 4 (mm 4) rfl)) (ja_cons (je_op opD_div (jv d.toJC 1 (mm 1) rfl) (jv d.toJC 4 (mm 4) rfl)) (ja_nil)))))))
theorem Tj_frac_1 (T : Tp fa fn bx K mg) : JF P w K mg base "frac" 1 [] (fun ds _ => ds ++ [D.int 1]) 2 m_frac := by
  obtain ⟨fd, F⟩ := T.sy.def_ 1 (d := d_frac) rfl
  exact jf_mkF 1 0 [D.int 1] F fs_frac sc_frac (T.glo 6) ⟨rfl, by decide, by decide⟩ (List.cons_ne_nil _ _) rfl (fun _ _ _ => .cons (.int _) (.nil)) (fun _ _ _ _ _ _ _ us its hl h2 => match us, its, hl, h2 with | [_], [_], _, _ => ⟨_, rfl, rfl⟩) (fun X W d => body_frac T d)
theorem Tj_frac_bottom (T : Tp fa fn bx K mg) : JF P w K mg base "frac" 1 ["bottom"] (fun a b => g_frac_bottom a b) 2 m_frac := by
  obtain ⟨fd, F⟩ := T.sy.def_ 1 (d := d_frac) rfl
  exact jf_mkFW 1 ["bottom"] F fs_frac sc_frac (T.glo 6) ⟨rfl, by decide, by decide⟩ (List.cons_ne_nil _ _) g_frac_bottom (fun {us ws} l1 l2 => match us, ws, l1, l2 with | [_], [_], _, _ => rfl) (fun {Z S H ds zs vs ws} r r2 l1 l2 => match ds, zs, vs, ws, r, r2, l1, l2 with | [_], [_], _, _, .cons a0 .nil, .cons b_bottom .nil, _, _ => .cons a0 (.cons b_bottom .nil)) (fun {vs zs us ws} r r2 l1 l2 => match vs, zs, us, ws, r, r2, l1, l2 with | [_], [_], _, _, .cons a0 .nil, .cons b_bottom .nil, _, _ => .cons a0 (.cons b_bottom .nil)) (fun _ _ _ _ _ _ _ us ws its l1 l2 l3 => match us, ws, its, l1, l2, l3 with | [_], [_], [_], _, _, _ => ⟨_, rfl, rfl⟩) (fun X W d => body_frac T d)
theorem Tj_frac (T : Tp fa fn bx K mg) : JF P w K mg base "frac" 2 [] (fun ds _ => ds ++ []) 2 m_frac := by
  obtain ⟨fd, F⟩ := T.sy.def_ 1 (d := d_frac) rfl
  exact jf_mkF 2 1 [] F fs_frac sc_frac (T.glo 6) ⟨rfl, by decide, by decide⟩ (List.cons_ne_nil _ _) rfl (fun _ _ _ => .nil) (fun _ _ _ _ _ _ _ us its hl h2 => match us, its, hl, h2 with | [_, _], [_], _, _ => ⟨_, rfl, rfl⟩) (fun X W d => body_frac T d)
theorem Tj_frac_bottom_top (T : Tp fa fn bx K mg) : JF P w K mg base "frac" 0 ["bottom", "top"] (fun a b => g_frac_bottom_top a b) 2 m_frac := by
  obtain ⟨fd, F⟩ := T.sy.def_ 1 (d := d_frac) rfl
  exact jf_mkFW 0 ["bottom", "top"] F fs_frac sc_frac (T.glo 6) ⟨rfl, by decide, by decide⟩ (List.cons_ne_nil _ _) g_frac_bottom_top (fun {us ws} l1 l2 => match us, ws, l1, l2 with | [], [_, _], _, _ => rfl) (fun {Z S H ds zs vs ws} r r2 l1 l2 => match ds, zs, vs, ws, r, r2, l1, l2 with | [], [_, _], _, _, .nil, .cons b_bottom (.cons b_top .nil), _, _ => .cons b_top (.cons b_bottom .nil)) (fun {vs zs us ws} r r2 l1 l2 => match vs, zs, us, ws, r, r2, l1, l2 with | [], [_, _], _, _, .nil, .cons b_bottom (.cons b_top .nil), _, _ => .cons b_top (.cons b_bottom .nil)) (fun _ _ _ _ _ _ _ us ws its l1 l2 l3 => match us, ws, its, l1, l2, l3 with | [], [_, _], [_], _, _, _ => ⟨_, rfl, rfl⟩) (fun X W d => body_frac T d)
theorem body_l_cell_at (T : Tp fa fn bx K mg) {X : Cx} {W : WX} (d : JD P w K mg base nm_l_cell_at (defScope (top 12)) vw_l_cell_at 0 X W) : JB X W (defBody (top 12)) t_l_cell_at :=
  jb_cons (js_if (jt_cmp opD_lt (jv d.toJC 1 (mm 1) rfl) (je_callB d.toJC cd_len (mm 0) (T.free 2) (by decide +kernel) (ja_cons (jv d.toJC 0 (mm 0) rfl) (ja_nil))) rfl) (jb_one (js_ret (je_ix (jv d.toJC 0 (mm 0) rfl) (jv d.toJC 1 (mm 1) rfl)))) (jb_nil)) (jb_one (js_ret (je_int)))
theorem Tj_l_cell_at (T : Tp fa fn bx K mg) : JF P w K mg base "_law_cell_at" 2 [] (fun ds _ => ds) 1 m_l_cell_at := by
  obtain ⟨fd, F⟩ := T.sy.def_ 2 (d := d_l_cell_at) rfl
  exact jf_mkN F fs_l_cell_at sc_l_cell_at (T.glo 15) ⟨rfl, by decide, by decide⟩ (fun _ _ _ _ _ _ us hl => match us, hl with | [_, _], _ => rfl) (fun X W d => body_l_cell_at T d)
theorem body_l_bag (T : Tp fa fn bx K mg) {X : Cx} {W : WX} (d : JD P w K mg base nm_l_bag (defScope (top 13)) vw_l_bag 1 X W) : JB X W (defBody (top 13)) t_l_bag :=
  jb_cons (js_set d.toJC 2 rfl (.inl (d.toJC.sC.loc 2 (mm 2) _ rfl)) (je_tup (ja_cons (je_int) (ja_cons (je_int) (ja_cons (je_int) (ja_cons (je_int) (ja_cons (je_int) (ja_cons (je_int) (ja_cons (je_int) (ja_cons (je_int) (ja_cons (je_int) (ja_nil)))))))))))) (jb_cons (js_set d.toJC 3 rfl (.inl (d.toJC.sC.loc 3 (mm 3) _ rfl)) (je_call d.toJC (Tj_l_cell_at T) (by decide) (mm 0) (ja_cons (jv d.toJC 0 (mm 0) rfl) (ja_cons (jv d.toJC 1 (mm 1) rfl) (ja_nil))))) (jb_cons (js_set d.toJC 4 rfl (.inl (d.toJC.sC.loc 4 (mm 4) _ rfl)) (je_op opD_add (je_op opD_mul (je_int) (jv d.toJC 1 (mm 1) rfl)) (je_int))) (jb_cons (js_for d (ji_r1 d.toJC (mm 1) (T.free 0) (ja_cons (je_int) (ja_nil))) (jg_name d.toJC 5 rfl (.inl (d.toJC.sC.loc 5 (mm 5) _ rfl))) (jb_cons (js_set d.toJC 6 rfl (.inl (d.toJC.sC.loc 6 (mm 6) _ rfl)) (je_op opD_add (je_op opD_add (je_op opD_mod (je_call d.toJC (Tj_l_cell_at T) (by decide) (mm 0) (ja_cons (jv d.toJC 0 (mm 0) rfl) (ja_cons (je_op opD_add (jv d.toJC 1 (mm 1) rfl) (jv d.toJC 5 (mm 5) rfl)) (ja_nil)))) (je_op opD_pow (je_int) (je_int))) (je_op opD_mul (je_int) (jv d.toJC 5 (mm 5) rfl))) (je_int))) (jb_one (js_set d.toJC 4 rfl (.inl (d.toJC.sC.loc 4 (mm 4) _ rfl)) (je_op opD_mod (je_op opD_add (je_op opD_mul (jv d.toJC 4 (mm 4) rfl) (je_int)) (je_op opD_mod (je_op opD_pow (jv d.toJC 6 (mm 6) rfl) (je_int)) (je_ix (jv d.toJC 2 (mm 2) rfl) (jv d.toJC 5 (mm 5) rfl)))) (je_int)))))) (jb_cons (js_if (jt_cmp opD_lt (jv d.toJC 3 (mm 3) rfl) (je_op opD_pow (je_int) (je_int)) rfl) (jb_one (js_set d.toJC 3 rfl (.inl (d.toJC.sC.loc 3 (mm 3) _ rfl)) (je_int))) (jb_nil)) (jb_one (js_ret (je_lstR (ja_cons (jv d.toJC 3 (mm 3) rfl) (ja_cons (je_op opD_add (jv d.toJC 4 (mm 4) rfl) (je_int)) (ja_nil))))))))))
theorem Tj_l_bag (T : Tp fa fn bx K mg) : JF P w K mg base "_law_bag" 2 [] (fun ds _ => ds) 2 m_l_bag := by
  obtain ⟨fd, F⟩ := T.sy.def_ 3 (d := d_l_bag) rfl
  exact jf_mkN F fs_l_bag sc_l_bag (T.glo 3) ⟨rfl, by decide, by decide⟩ (fun _ _ _ _ _ _ us hl => match us, hl with | [_, _], _ => rfl) (fun X W d => body_l_bag T d)
theorem body_l_take (T : Tp fa fn bx K mg) {X : Cx} {W : WX} (d : JD P w K mg base nm_l_take (defScope (top 14)) vw_l_take 0 X W) : JB X W (defBody (top 14)) t_l_take :=
  jb_cons (js_if (jt_cmp opD_gt (je_ix (jv d.toJC 0 (mm 0) rfl) (je_int)) (je_int) rfl) (jb_cons (js_set d.toJC 2 rfl (.inl (d.toJC.sC.loc 2 (mm 2) _ rfl)) (je_op opD_mod (je_ix (jv d.toJC 0 (mm 0) rfl) (je_int)) (jv d.toJC 1 (mm 1) rfl))) (jb_cons (js_sub (jv d.toJC 0 (mm 0) rfl) (je_int) (je_op opD_div (je_ix (jv d.toJC 0 (mm 0) rfl) (je_int)) (jv d.toJC 1 (mm 1) rfl))) (jb_one (js_ret (jv d.toJC 2 (mm 2) rfl))))) (jb_nil)) (jb_cons (js_sub (jv d.toJC 0 (mm 0) rfl) (je_int) (je_op opD_mod (je_op opD_mul (je_ix (jv d.toJC 0 (mm 0) rfl) (je_int)) (je_int)) (je_int))) (jb_one (js_ret (je_op opD_mod (je_op opD_mod (je_op opD_mod (je_op opD_pow (je_ix (jv d.toJC 0 (mm 0) rfl) (je_int)) (je_int)) (je_int)) (je_int)) (jv d.toJC 1 (mm 1) rfl)))))
theorem Tj_l_take (T : Tp fa fn bx K mg) : JF P w K mg base "_law_take" 2 [] (fun ds _ => ds) 1 m_l_take := by
  obtain ⟨fd, F⟩ := T.sy.def_ 4 (d := d_l_take) rfl
  exact jf_mkN F fs_l_take sc_l_take (T.glo 4) ⟨rfl, by decide, by decide⟩ (fun _ _ _ _ _ _ us hl => match us, hl with | [_, _], _ => rfl) (fun X W d => body_l_take T d)
theorem body_l_whole (T : Tp fa fn bx K mg) {X : Cx} {W : WX} (d : JD P w K mg base nm_l_whole (defScope (top 15)) vw_l_whole 0 X W) : JB X W (defBody (top 15)) t_l_whole :=
  jb_one (js_ret (je_and (je_isi d.toJC (mm 0) (T.free 8) (mm 1) (T.free 16) (by decide +kernel) (jv d.toJC 0 (mm 0) rfl)) (je_one (je_not (je_isi d.toJC (mm 0) (T.free 8) (mm 2) (T.free 17) (by decide +kernel) (jv d.toJC 0 (mm 0) rfl))))))
theorem Tj_l_whole (T : Tp fa fn bx K mg) : JF P w K mg base "_law_whole" 1 [] (fun ds _ => ds) 1 m_l_whole := by
  obtain ⟨fd, F⟩ := T.sy.def_ 5 (d := d_l_whole) rfl
  exact jf_mkN F fs_l_whole sc_l_whole (T.glo 10) ⟨rfl, by decide, by decide⟩ (fun _ _ _ _ _ _ us hl => match us, hl with | [_], _ => rfl) (fun X W d => body_l_whole T d)
theorem body_l_low (T : Tp fa fn bx K mg) {X : Cx} {W : WX} (d : JD P w K mg base nm_l_low (defScope (top 16)) vw_l_low 0 X W) : JB X W (defBody (top 16)) t_l_low :=
  jb_cons (js_if (jt_cmp opD_lt (jv d.toJC 1 (mm 1) rfl) (je_int) rfl) (jb_one (js_par d.toJC 0 1 rfl rfl (by decide) (d.toJC.sC.loc 0 (mm 0) _ rfl) (d.toJC.sC.loc 1 (mm 1) _ rfl) (ja_cons (je_op opD_sub (je_int) (jv d.toJC 0 (mm 0) rfl)) (ja_cons (je_op opD_sub (je_int) (jv d.toJC 1 (mm 1) rfl)) (ja_nil))) (sw2 d.toJC.kd (by rw [d.toJC.ss]; exact (d.toJC.sC.loc 0 (mm 0) _ rfl)) (by rw [d.toJC.ss]; exact (d.toJC.sC.loc 1 (mm 1) _ rfl)) rfl (by decide +kernel) rfl rfl rfl))) (jb_nil)) (jb_cons (js_par d.toJC 2 3 rfl rfl (by decide) (d.toJC.sC.loc 2 (mm 2) _ rfl) (d.toJC.sC.loc 3 (mm 3) _ rfl) (ja_cons (je_callB d.toJC cd_abs (mm 0) (T.free 11) (by decide +kernel) (ja_cons (jv d.toJC 0 (mm 0) rfl) (ja_nil))) (ja_cons (jv d.toJC 1 (mm 1) rfl) (ja_nil))) (sw2 d.toJC.kd (by rw [d.toJC.ss]; exact (d.toJC.sC.loc 2 (mm 2) _ rfl)) (by rw [d.toJC.ss]; exact (d.toJC.sC.loc 3 (mm 3) _ rfl)) rfl (by decide +kernel) rfl rfl rfl)) (jb_cons (js_while d (jt_cmp opD_gt (jv d.toJC 2 (mm 2) rfl) (je_int) rfl) (jb_one (js_par d.toJC 2 3 rfl rfl (by decide) (d.toJC.sC.loc 2 (mm 2) _ rfl) (d.toJC.sC.loc 3 (mm 3) _ rfl) (ja_cons (je_op opD_mod (jv d.toJC 3 (mm 3) rfl) (jv d.toJC 2 (mm 2) rfl)) (ja_cons (jv d.toJC 2 (mm 2) rfl) (ja_nil))) (sw2 d.toJC.kd (by rw [d.toJC.ss]; exact (d.toJC.sC.loc 2 (mm 2) _ rfl)) (by rw [d.toJC.ss]; exact (d.toJC.sC.loc 3 (mm 3) _ rfl)) rfl (by decide +kernel) rfl rfl rfl)))) (jb_one (js_ret (je_tup (ja_cons (je_op opD_div (jv d.toJC 0 (mm 0) rfl) (jv d.toJC 3 (mm 3) rfl)) (ja_cons (je_op opD_div (jv d.toJC 1 (mm 1) rfl) (jv d.toJC 3 (mm 3) rfl)) (ja_nil))))))))
theorem Tj_l_low (T : Tp fa fn bx K mg) : JF P w K mg base "_law_low" 2 [] (fun ds _ => ds) 1 m_l_low := by
  obtain ⟨fd, F⟩ := T.sy.def_ 6 (d := d_l_low) rfl
  exact jf_mkN F fs_l_low sc_l_low (T.glo 7) ⟨rfl, by decide, by decide⟩ (fun _ _ _ _ _ _ us hl => match us, hl with | [_, _], _ => rfl) (fun X W d => body_l_low T d)
theorem body_l_refused (T : Tp fa fn bx K mg) {X : Cx} {W : WX} (d : JD P w K mg base nm_l_refused (defScope (top 20)) vw_l_refused 2 X W) : JB X W (defBody (top 20)) t_l_refused :=
  jb_cons (js_try_as d 1 rfl (mm 1) (mm 1) (T.glo 13) (fun nm b Cn h hn => by obtain ⟨rfl, rfl⟩ := sbOne_eq h; rw [← ga_eq hn]; exact He.exm_ok (T.sy.fact 24 rfl)) (fun _ _ d => jb_one (js_expr (je_call d.toJC (Tj_frac T) (by decide) (mm 0) (ja_cons (jv d.toJC 0 (mm 0) rfl) (ja_cons (je_int) (ja_nil)))))) (fun _ _ => (by (repeat first | exact moNx | exact moIsE | exact moRetN | refine moSeq ?_ ?_ | refine moAsg ?_ | refine moRet ?_ | refine moIfS ?_ ?_ ?_ | exact moVr _ | exact moCn _ | exact moNilA | exact moAdd | exact moSub | exact moMul | exact moDiv | exact moMod | exact moLt | exact moLe | exact moGt | exact moGe | exact moEq | exact moNe | exact moIs | exact moIsNot | exact moIn _ | exact moIx | refine moTwo ?_ ?_ ?_ | refine moConsA ?_ ?_ | refine moTup ?_ | refine moTbl ?_ | refine moTtr ?_ | refine moAndD ?_ ?_ | refine moOrD ?_ ?_ | refine moNotD ?_ | refine moVOf ?_ | refine moEIf ?_ ?_ ?_ | refine moIsi ?_))) (fun X2 a Dc nm h hn c => by obtain ⟨rfl, _⟩ := sbOne_eq h; have ee := ga_eq hn; subst ee; exact jb_cons (js_set0 c.toJC0 2 rfl (mm 2) (je_isT c 1 (excC_ok (all_at T.bx 1 rfl)) (mm 1) rfl (mm 2) (T.free 8) (pcls_cons c.toJC0 (mm 3) (clU_own (T.sy.fact 23 rfl) (T.glo 23)) (pcls_cons c.toJC0 (mm 4) (clU_own (T.sy.fact 22 rfl) (T.glo 22)) (pcls_cons c.toJC0 (mm 5) (clU_own (T.sy.fact 21 rfl) (T.glo 21)) (pcls_cons c.toJC0 (mm 6) (clU_own (T.sy.fact 20 rfl) (T.glo 20)) (pcls_cons c.toJC0 (mm 7) (clU_own (T.sy.fact 19 rfl) (T.glo 19)) (pcls_cons c.toJC0 (mm 8) (clU_own (T.sy.fact 18 rfl) (T.glo 18)) pcls_nil)))))) (Nat.le_of_ble_eq_true rfl) (fun _ h => by cases h; exact of_decide_eq_true (all_at T.bx 2 rfl)))) (jb_one (js_ret (je_and (je_isE c 1 (excC_ok (all_at T.bx 1 rfl)) (mm 1) rfl (mm 2) (T.free 8) (mm 9) (clU_blt (T := "ZeroDivisionError") (T.sy.fact 12 rfl) (T.free 12) (by decide +kernel)) (fun _ h => by cases h; exact of_decide_eq_true (all_at T.bx 3 rfl))) (je_one (je_not (jv0 c.toJC0 2 (mm 2) rfl)))))))) (jb_one (js_ret (je_bl)))
theorem Tj_l_refused (T : Tp fa fn bx K mg) : JF P w K mg base "_law_refused" 1 [] (fun ds _ => ds) 3 m_l_refused := by
  obtain ⟨fd, F⟩ := T.sy.def_ 7 (d := d_l_refused) rfl
  exact jf_mkN F fs_l_refused sc_l_refused (T.glo 5) ⟨rfl, by decide, by decide⟩ (fun _ _ _ _ _ _ us hl => match us, hl with | [_], _ => rfl) (fun X W d => body_l_refused T d)
theorem body_law (T : Tp fa fn bx K mg) {X : Cx} {W : WX} (d : JD P w K mg base nm_law (defScope (top 21)) vw_law 3 X W) : JB X W (defBody (top 21)) t_law :=
  jb_cons (js_for d (ji_r1 d.toJC (mm 0) (T.free 0) (ja_cons (je_op opD_add (je_int) (je_callB d.toJC (cd_min d.toJC.calm) (mm 1) (T.free 1) (by decide +kernel) (ja_cons (je_int) (ja_cons (je_callB d.toJC cd_len (mm 2) (T.free 2) (by decide +kernel) (ja_cons (jv d.toJC 0 (mm 0) rfl) (ja_nil))) (ja_nil))))) (ja_nil))) (jg_name d.toJC 1 rfl (.inl (d.toJC.sC.loc 1 (mm 1) _ rfl))) (jb_cons (js_set d.toJC 2 rfl (.inl (d.toJC.sC.loc 2 (mm 2) _ rfl)) (je_call d.toJC (Tj_l_bag T) (by decide) (mm 3) (ja_cons (jv d.toJC 0 (mm 0) rfl) (ja_cons (jv d.toJC 1 (mm 1) rfl) (ja_nil))))) (jb_cons (js_set d.toJC 3 rfl (.inl (d.toJC.sC.loc 3 (mm 3) _ rfl)) (je_lstR (ja_nil))) (jb_cons (js_for d (ji_r1 d.toJC (mm 0) (T.free 0) (ja_cons (je_int) (ja_nil))) (jg_name d.toJC 4 rfl (.inl (d.toJC.sC.loc 4 (mm 4) _ rfl))) (jb_cons (js_set d.toJC 5 rfl (.inl (d.toJC.sC.loc 5 (mm 5) _ rfl)) (je_ix (je_lst (ja_cons (je_int) (ja_cons (je_int) (ja_cons (je_int) (ja_cons (je_op opD_pow (je_int) (je_int)) (ja_nil)))))) (je_call d.toJC (Tj_l_take T) (by decide) (mm 4) (ja_cons (jv d.toJC 2 (mm 2) rfl) (ja_cons (je_int) (ja_nil)))))) (jb_one (js_expr (je_append (jv d.toJC 3 (mm 3) rfl) (ja_cons (je_op opD_mul (je_call d.toJC (Tj_l_take T) (by decide) (mm 4) (ja_cons (jv d.toJC 2 (mm 2) rfl) (ja_cons (jv d.toJC 5 (mm 5) rfl) (ja_nil)))) (je_op opD_sub (je_int) (je_op opD_mul (je_int) (je_call d.toJC (Tj_l_take T) (by decide) (mm 4) (ja_cons (jv d.toJC 2 (mm 2) rfl) (ja_cons (je_int) (ja_nil))))))) (ja_nil))))))) (jb_cons (js_asg (jv d.toJC 3 (mm 3) rfl) (jg_tup d.toJC.calm (jgs_cons (jg_name d.toJC 6 rfl (.inl (d.toJC.sC.loc 6 (mm 6) _ rfl))) (jgs_cons (jg_name d.toJC 7 rfl (.inl (d.toJC.sC.loc 7 (mm 7) _ rfl))) (jgs_nil))))) (jb_cons (js_if (jt_w (jw_or (jt_not (jt_tru (je_call d.toJC (Tj_l_refused T) (by decide) (mm 5) (ja_cons (jv d.toJC 6 (mm 6) rfl) (ja_nil))))) (jw_or (jt_cmp (opD_ne d.toJC.room) (je_call d.toJC (Tj_frac_1 T) (by decide) (mm 6) (ja_cons (jv d.toJC 6 (mm 6) rfl) (ja_nil))) (je_tup (ja_cons (jv d.toJC 6 (mm 6) rfl) (ja_cons (je_int) (ja_nil)))) rfl) (jw_or1 (jt_cmp (opD_ne d.toJC.room) (je_callK d.toJC (Tj_frac_bottom T) (by decide) (mm 6) (ja_cons (jv d.toJC 6 (mm 6) rfl) (ja_nil)) (jk_cons (je_int) (jk_nil))) (je_tup (ja_cons (jv d.toJC 6 (mm 6) rfl) (ja_cons (je_int) (ja_nil)))) rfl))))) (jb_one (js_ret (je_bl))) (jb_nil)) (jb_one (js_if (jt_cmp (opD_ne d.toJC.room) (jv d.toJC 7 (mm 7) rfl) (je_int) rfl) (jb_cons (js_set d.toJC 8 rfl (.inl (d.toJC.sC.loc 8 (mm 8) _ rfl)) (je_call d.toJC (Tj_frac T) (by decide) (mm 6) (ja_cons (jv d.toJC 6 (mm 6) rfl) (ja_cons (jv d.toJC 7 (mm 7) rfl) (ja_nil))))) (jb_cons (js_if (jt_w (jw_or (jt_cmp (opD_ne d.toJC.room) (jv d.toJC 8 (mm 8) rfl) (je_call d.toJC (Tj_l_low T) (by decide) (mm 7) (ja_cons (jv d.toJC 6 (mm 6) rfl) (ja_cons (jv d.toJC 7 (mm 7) rfl) (ja_nil)))) rfl) (jw_or (jt_not (jt_tru (je_isi d.toJC (mm 8) (T.free 8) (mm 9) (T.free 9) (by decide +kernel) (jv d.toJC 8 (mm 8) rfl)))) (jw_or1 (jt_cmp (opD_ne d.toJC.room) (je_callK0 d.toJC (Tj_frac_bottom_top T) (by decide) (mm 6) (jk_cons (jv d.toJC 7 (mm 7) rfl) (jk_cons (jv d.toJC 6 (mm 6) rfl) (jk_nil)))) (jv d.toJC 8 (mm 8) rfl) rfl))))) (jb_one (js_ret (je_bl))) (jb_nil)) (jb_one (js_if (jt_w (jw_or (jt_not (jt_tru (je_call d.toJC (Tj_l_whole T) (by decide) (mm 10) (ja_cons (je_ix (jv d.toJC 8 (mm 8) rfl) (je_int)) (ja_nil))))) (jw_or1 (jt_not (jt_tru (je_call d.toJC (Tj_l_whole T) (by decide) (mm 10) (ja_cons (je_ix (jv d.toJC 8 (mm 8) rfl) (je_int)) (ja_nil)))))))) (jb_one (js_ret (je_bl))) (jb_nil))))) (jb_nil))))))))) (jb_one (js_ret (je_bl)))
theorem ok_law (T : Tp fa fn bx K mg) {f : Addr} {fd : FuncData} (F : FunD K d_law.name d_law.qual d_law.params d_law.body d_law.scope (d_law.dvs K) (d_law.kws K) f fd) : FnOk P w K mg base (L2.CX P w) 4 f fd ["_law_script"] (LSp K 1 m_law) :=
  ok_mkN F fs_law sc_law fun X W d => body_law T d
theorem mo_law {P : Program} {w : World} {base : Heap} (T : Tp fa fn bx K mg) : MoF m_law := moFn (moS_of (k := 3) (P := P) (w := w) (base := base) fs_law sc_law ⟨rfl, by decide, by decide⟩ fun X W d => body_law T d)
end
end K01

section
local macro_rules | `(tactic| walk_at "blz") => `(tactic| fail)
local macro_rules | `(tactic| walk_at "bl0") => `(tactic| (with_reducible (first
  | (refine Go.gVr ?_; first | refine Go.vr0 ?_ | refine Go.vr1 ?_ | refine Go.vr2 ?_ | refine Go.vr3 ?_ | refine Go.vr4 ?_ | refine Go.vr5 ?_ | refine Go.vr6 ?_ | refine Go.vr7 ?_ | refine Go.vr8 ?_ | refine Go.vr9 ?_ | refine Go.vr10 ?_ | refine Go.vr11 ?_ | refine Go.vr12 ?_ | refine Go.vr13 ?_ | refine Go.vr14 ?_ | refine Go.vr15 ?_ | refine Go.vr16 ?_ | refine Go.vr17 ?_ | refine Go.vr18 ?_ | refine Go.vr19 ?_ | refine Go.vr20 ?_ | refine Go.vr21 ?_ | refine Go.vr22 ?_ | refine Go.vr23 ?_)
  | refine Go.two ?_
  | refine Go.cn' ?_
  | (refine Go.gIxT ?_; first | refine Go.ixT0 ?_ | refine Go.ixT1 ?_ | refine Go.ixT2 ?_ | refine Go.ixT3 ?_ | refine Go.ixT4 ?_ | refine Go.ixT5 ?_ | refine Go.ixT6 ?_ | refine Go.ixT7 ?_)
  | refine Go.cons ?_
  | refine Go.nil ?_
  | (refine Go.gAsg ?_; first | refine Go.set0 ?_ | refine Go.set1 ?_ | refine Go.set2 ?_ | refine Go.set3 ?_ | refine Go.set4 ?_ | refine Go.set5 ?_ | refine Go.set6 ?_ | refine Go.set7 ?_ | refine Go.set8 ?_ | refine Go.set9 ?_ | refine Go.set10 ?_ | refine Go.set11 ?_ | refine Go.set12 ?_ | refine Go.set13 ?_ | refine Go.set14 ?_ | refine Go.set15 ?_ | refine Go.set16 ?_ | refine Go.set17 ?_ | refine Go.set18 ?_ | refine Go.set19 ?_ | refine Go.set20 ?_ | refine Go.set21 ?_ | refine Go.set22 ?_ | refine Go.set23 ?_ | refine Go.tp_cons ?_ | refine Go.tp_nil ?_)
  | refine Go.seq ?_
  | refine Go.asg ?_
  | refine Go.call ?_
  | refine Go.callK' rfl rfl ?_
  | refine Go.tup ?_
  | refine Go.tupK' rfl ?_
  | refine Go.tbl' ?_
  | refine Go.tblK' ?_
  | refine Go.if' ?_
  | refine Go.ret ?_
  | refine Go.nx' ?_
  | refine Go.add ?_
  | refine Go.sub' ?_
  | refine Go.par ?_
  | refine Go.par_cons ?_
  | refine Go.par_nil ?_
  | refine Go.and' ?_
  | refine Go.or' ?_
  | refine Go.not' ?_
  | refine Go.ifT ?_
  | refine Go.ifF ?_
  | refine Go.ifN ?_
  | refine Go.lt ?_
  | refine Go.le ?_
  | refine Go.gt ?_
  | refine Go.ge ?_
  | refine Go.eqI ?_
  | refine Go.neI ?_
  | refine Go.ttr' ?_
  | refine Go.truB ?_
  | refine Go.eIf' ?_
  | refine Go.dB' ?_
  | refine Go.for' ?_
  | (refine Go.gIxL ?_; first | refine Go.ixL0 ?_ | refine Go.ixL1 ?_ | refine Go.ixL2 ?_ | refine Go.ixL3 ?_ | refine Go.ixL4 ?_ | refine Go.ixL5 ?_ | refine Go.ixL6 ?_ | refine Go.ixL7 ?_)
  | refine Go.drop ?_
  | refine Go.brk ?_
  | refine Go.cnt ?_
  | refine Go.raise ?_
  | refine Go.thru ?_
  | refine Go.tryAs ?_
  | refine Go.sub ?_
  | refine Go.retN ?_
  | refine Go.lst ?_
  | refine Go.lstR ?_
  | refine Go.truI ?_
  | refine Go.truN ?_
  | refine Go.vOf' ?_
  | refine Go.vNot' ?_
  | refine Go.is' ?_
  | refine Go.isNot' ?_
  | refine Go.chain ?_
  | refine Go.neg ?_
  | refine Go.neg' ?_
  | refine Go.abs' ?_
  | refine Go.lenT ?_
  | refine Go.lenL ?_
  | refine Go.max' ?_
  | refine Go.min' ?_
  | refine Go.intI ?_
  | refine Go.intB ?_
  | refine Go.tupL ?_
  | refine Go.tupT ?_
  | refine Go.isi ?_
  | refine Go.iVal' ?_
  | refine Go.iValT ?_
  | refine Go.iValL ?_
  | refine Go.r1 ?_
  | refine Go.r2 ?_
  | refine Go.star ?_
  | refine Go.l_cons ?_
  | refine Go.l_nil ?_
  | refine Go.enum' ?_
  | refine Go.rev' ?_
  | refine Go.zip' ?_
  | refine Go.wipe_nil ?_
  | refine Go.wipe_cons ?_
  | refine Go.iadd ?_
  | refine Go.sl ?_
  | refine Go.oN ?_
  | refine Go.oS ?_
  | refine Go.osK' ?_
  | refine Go.getL ?_
  | refine Go.lc ?_
  | refine Go.lcR ?_
  | refine Go.lg_nil ?_
  | refine Go.lg_cons ?_
  | refine Go.yes ?_
  | refine Go.for_nil ?_
  | refine Go.for_cons ?_
  | refine Go.revT ?_
  | refine Go.revL ?_
  | refine Go.zipT ?_
  | refine Go.zipL ?_
  | refine Go.lstK' rfl ?_
  | refine Go.lcL rfl ?_
  | refine Go.getLL' rfl ?_
  | refine Go.addT rfl ?_
  | (refine Go.gAug ?_; first | refine Go.aug0 ?_ | refine Go.aug1 ?_ | refine Go.aug2 ?_ | refine Go.aug3 ?_ | refine Go.aug4 ?_ | refine Go.aug5 ?_ | refine Go.aug6 ?_ | refine Go.aug7 ?_ | refine Go.aug8 ?_ | refine Go.aug9 ?_ | refine Go.aug10 ?_ | refine Go.aug11 ?_ | refine Go.aug12 ?_ | refine Go.aug13 ?_ | refine Go.aug14 ?_ | refine Go.aug15 ?_ | refine Go.aug16 ?_ | refine Go.aug17 ?_ | refine Go.aug18 ?_ | refine Go.aug19 ?_ | refine Go.aug20 ?_ | refine Go.aug21 ?_ | refine Go.aug22 ?_ | refine Go.aug23 ?_)
  | (refine Go.gStar ?_; first | refine Go.startup0 ?_ | refine Go.starlst0 ?_ | refine Go.startup1 ?_ | refine Go.starlst1 ?_ | refine Go.startup2 ?_ | refine Go.starlst2 ?_ | refine Go.startup3 ?_ | refine Go.starlst3 ?_ | refine Go.startup4 ?_ | refine Go.starlst4 ?_ | refine Go.startup_2 ?_ | refine Go.starlst_2 ?_ | refine Go.startup_3 ?_ | refine Go.starlst_3 ?_ | refine Go.startup_4 ?_ | refine Go.starlst_4 ?_)
  | refine Go.slfT1 ?_ | refine Go.sltT1 ?_ | refine Go.slfL1 ?_ | refine Go.sltL1 ?_ | refine Go.slfT2 ?_ | refine Go.sltT2 ?_ | refine Go.slfL2 ?_ | refine Go.sltL2 ?_ | refine Go.slfT3 ?_ | refine Go.sltT3 ?_ | refine Go.slfL3 ?_ | refine Go.sltL3 ?_ | refine Go.slfT4 ?_ | refine Go.sltT4 ?_ | refine Go.slfL4 ?_ | refine Go.sltL4 ?_
  | (refine Go.gUns ?_; first | refine Go.uns0 ?_ | refine Go.uns1 ?_ | refine Go.uns2 ?_ | refine Go.uns3 ?_ | refine Go.uns4 ?_ | refine Go.uns5 ?_ | refine Go.uns6 ?_ | refine Go.uns7 ?_ | refine Go.uns8 ?_ | refine Go.uns9 ?_ | refine Go.uns10 ?_ | refine Go.uns11 ?_ | refine Go.uns12 ?_ | refine Go.uns13 ?_ | refine Go.uns14 ?_ | refine Go.uns15 ?_ | refine Go.uns16 ?_ | refine Go.uns17 ?_ | refine Go.uns18 ?_ | refine Go.uns19 ?_ | refine Go.uns20 ?_ | refine Go.uns21 ?_ | refine Go.uns22 ?_ | refine Go.uns23 ?_)
  | refine Go.entup0 ?_ | refine Go.enlst0 ?_ | refine Go.entup1 ?_ | refine Go.enlst1 ?_ | refine Go.entup2 ?_ | refine Go.enlst2 ?_ | refine Go.entup3 ?_ | refine Go.enlst3 ?_ | refine Go.entup4 ?_ | refine Go.enlst4 ?_ | refine Go.entup5 ?_ | refine Go.enlst5 ?_ | refine Go.entup6 ?_ | refine Go.enlst6 ?_)))
local macro_rules | `(tactic| walk_at "bl1") => `(tactic| first | walk_at "bl0" | walk_at "blz" | ((with_reducible refine Go.gEqS ?_); (first | refine Go.eqS (b := true) ⟨rfl, by decide +kernel⟩ ⟨rfl, by decide +kernel⟩ rfl ?_ | refine Go.eqS (b := false) ⟨rfl, by decide +kernel⟩ ⟨rfl, by decide +kernel⟩ rfl ?_)) | ((with_reducible refine Go.gNeS ?_); (first | refine Go.neS (b := true) ⟨rfl, by decide +kernel⟩ ⟨rfl, by decide +kernel⟩ rfl ?_ | refine Go.neS (b := false) ⟨rfl, by decide +kernel⟩ ⟨rfl, by decide +kernel⟩ rfl ?_)) | ((with_reducible refine Go.gAll ?_); (refine Go.allB (by rfl) ?_)) | ((with_reducible refine Go.gIxT ?_); (refine Go.ixT (by rfl) ?_)) | ((with_reducible refine Go.gIxL ?_); (refine Go.ixL (by rfl) ?_)))
local macro_rules | `(tactic| walk_at "bl") => `(tactic| (repeat walk_at "bl1"))
namespace K01
open PySem PySem.Spec PyProof.Rows L2 Bl Lb
theorem abs_ne {q : Int} (h : q ≠ 0) : ¬ (if q < 0 then -q else q) = 0 := by split <;> omega
theorem appG {ta : TAd} {env : Ev} {S : Sto} {Q : DK} {E : EK} {r : Addr} {i : Nat} {xs : List D} (e : env[i]? = some (some (.ref r))) (h : S r = some xs) (k : ta env S (fun ds S2 => gApp r ds S2 Q) E) : dLm gApp (vr i) ta env S Q E := by
  unfold dLm
  refine vr_go e ?_
  exact ⟨by rw [h]; rfl, k⟩
theorem appK {r : Addr} {d : D} {xs : List D} {S : Sto} {Q : DK} (h : S r = some xs) (hl : xs.length ≤ 100) (k : Q .non (sup S r (xs ++ [d]))) : gApp r [d] S Q := by
  unfold gApp
  dsimp only
  rw [h]
  exact ⟨Nat.lt_of_le_of_lt hl (by decide), k⟩
theorem asg_ref {ts : List Tg} {r : Addr} {ds : List D} {S : Sto} {env e : Ev} {nx : Ev → Sto → Prop} (h : S r = some ds) (ha : asgL S ts ds env = some e) (k : nx e S) : Go.asgK S (.tp ts) (.ref r) env nx := by
  unfold Go.asgK asgT itemsOf
  dsimp only
  rw [h]
  dsimp only
  rw [ha]
  exact k
theorem whole_spec {i : Int} {S : Sto} {Q : DK} {E : EK} (k : Q (.bl true) S) : m_l_whole [.int i] S Q E := by
  refine e_l_whole ?_
  unfold t_l_whole
  walk_at "bl"
  refine Go.isiK' (isi_int i) ?_
  walk_at "bl"
  refine Go.isiK' (isi_int_b i) ?_
  walk_at "bl"
  exact k
theorem tryDiv_go {q : Int} {n i j : Nat} {env : Ev} {C : Str} {S : Sto} {N : Nd} (ea : env[n]? = some (some (.int q))) (h : if (if q < 0 then -q else q) = 0 then N.ex ⟨C, []⟩ (env.set j none) S else CDiv' (if q < 0 then -q else q) ∧ N.nx (env.set i (some (.int (q.fdiv (if q < 0 then -q else q))))) S) :
    sTryDiv (vr n) (dB bAbs (aCons (vr n) aNil)) i j C env S N := by
  unfold sTryDiv
  simp only [vr, ea, dB, aCons, aNil, bAbs]
  exact h
theorem frac_zero {p : Int} {S : Sto} {Q : DK} {E : EK} (k : E ⟨"NoFraction", []⟩ S) : m_frac [.int p, .int 0] S Q E := by
  refine e_frac ?_
  unfold t_frac
  refine Go.seq ?_
  exact k
theorem frac_spec {p q : Int} {n : Nat} {r : Rat} {S : Sto} {Q : DK} {E : EK} (hq : q ≠ 0) (hp : sm n p) (hs : sm n q) (hn : n ≤ 8900) (h : r * q = p) (k : Q (fr r) S) : m_frac [.int p, .int q] S Q E := by
  refine e_frac ?_
  unfold t_frac
  refine Go.seq ?_
  obtain ⟨t, et, t0, e1, e2⟩ := low_of hq h
  have es : q.fdiv (if q < 0 then -q else q) = q.sign := by
    split
    · rename_i hq0
      rw [Int.sign_eq_neg_one_of_neg hq0]
      have := fdiv_mul (a := -1) (t := -q) (by omega)
      rw [← this]
      congr 1
      omega
    · rename_i hq0
      rw [Int.sign_eq_one_of_pos (by omega), Int.fdiv_self (by omega)]
  have g1 : sm n (Int.gcd p q) := by
    have : Int.gcd p q ≤ q.natAbs := Nat.le_of_dvd (by omega) (Nat.gcd_dvd_right ..)
    unfold sm at *
    omega
  have g2 : sm 1 q.sign := by
    unfold sm
    rcases Int.lt_or_gt_of_ne hq with z | z
    · rw [Int.sign_eq_neg_one_of_neg z]; decide
    · rw [Int.sign_eq_one_of_pos z]; decide
  have ht : sm (n + 1) t := by rw [et]; exact (g2.mul g1).mono (by omega)
  have hd : CDiv' t := ht.cdiv t0 (by omega)
  have d1 : p.fdiv t = r.num := by rw [e1, fdiv_mul t0]
  have d2 : q.fdiv t = r.den := by rw [e2, fdiv_mul t0]
  refine tryDiv_go (q := q) rfl ?_
  rw [if_neg (abs_ne hq), es]
  refine ⟨hs.abs.cdiv (abs_ne hq) (by omega), ?_⟩
  dsimp only [List.set]
  walk_at "bl"
  refine common_spec hp hs ?_
  walk_at "bl"
  refine Go.mul (g1.cmul g2 (by omega)) ?_
  walk_at "bl"
  rw [Int.mul_comm, ← et]
  refine Go.div hd ?_
  walk_at "bl"
  refine Go.div hd ?_
  walk_at "bl"
  rw [d1, d2]
  exact k
theorem nd_ex {sb : Str → Option Bool} {i : Nat} {u : Addr → Str → TSd} {N : Nd} {nm : Str} {e : Ev} {S1 : Sto} (h : sb nm = some true) (k : ∀ a, u a nm (e.set i (some (.obj a))) S1 (ndS i N)) : (ndT sb i u N).ex ⟨nm, []⟩ e S1 := by
  unfold ndT
  dsimp only
  rw [h]
  exact ⟨rfl, k⟩
theorem refused_spec {p : Int} {S : Sto} {Q : DK} {E : EK} (k : Q (.bl true) S) : m_l_refused [.int p] S Q E := by
  refine e_l_refused ?_
  unfold t_l_refused
  walk_at "bl"
  refine frac_zero (nd_ex (if_pos rfl) fun a => ?_)
  exact ⟨rfl, rfl, k⟩
theorem frac_one {p : Int} {n : Nat} {S : Sto} {Q : DK} {E : EK} (hp : sm n p) (h1 : 1 ≤ n) (hn : n ≤ 8900) (k : Q (.tup [.int p, .int 1]) S) : m_frac [.int p, .int 1] S Q E := frac_spec (n := n) (r := (p : Rat)) (by decide) hp ((show sm 1 1 by unfold sm; decide).mono h1) hn (by grind) (by
  show Q (.tup [.int (p : Rat).num, .int (p : Rat).den]) S
  rw [Rat.num_intCast, Rat.den_intCast]
  exact k)
theorem mosts {d : Int} (h0 : 0 ≤ d) (h1 : d < 4) : ∃ x : Int, 0 < x ∧ sm 100 x ∧ atI [D.int 3, .int 10, .int 1000, .int (10 ^ (30 : Int).toNat)] d = some (.int x) := by
  rcases (by omega : d = (0 : Nat) ∨ d = (1 : Nat) ∨ d = (2 : Nat) ∨ d = (3 : Nat)) with h | h | h | h <;> subst h <;> exact ⟨_, by decide +kernel, by unfold sm; decide +kernel, atI_nat rfl⟩
theorem low_fr {p q : Int} (hq : q ≠ 0) : ((p : Rat) / (q : Rat)) * (q : Rat) = (p : Rat) := Rat.div_mul_cancel (castne hq)
theorem law_pure : ∀ ns : List Int, ns.length ≤ 63 → m_law [.lst (ns.map D.int)] (fun _ => none) (fun d _ => d = .bl true) fun _ _ => False := by
  intro ns hl
  refine e_law ?_
  unfold t_law
  walk_at "bl"
  refine Go.r1' (n := 1 + min 6 ns.length) (by rw [List.length_map]; split <;> omega) (by omega) ?_
  refine forD_rng (fun j e s => ∃ o1 o2 o3 o4 o5 o6 o7 o8, e = [some (.lst (ns.map D.int)), o1, o2, o3, o4, o5, o6, o7, o8]) ⟨_, _, _, _, _, _, _, _, rfl⟩ ?_ ?_
  · rintro j e s hj ⟨o1, o2, o3, o4, o5, o6, o7, o8, rfl⟩
    refine ⟨_, rfl, fun N' hnx _ _ _ _ => ?_⟩
    show sSeq _ _ [some (.lst (ns.map D.int)), some (.int (0 + j)), o2, o3, o4, o5, o6, o7, o8] _ _
    walk_at "bl"
    refine bag_spec (by omega) (by omega) fun a S1 na b1 f1 => ?_
    walk_at "bl"
    refine Go.lstRK' rfl fun c hc => ?_
    have ca : c ≠ a := fun z => by
      obtain ⟨x, y, ha, _⟩ := b1
      rw [z, ha] at hc
      cases hc
    have b2 : Bg (sup S1 c []) a := by
      obtain ⟨x, y, ha, hr⟩ := b1
      exact ⟨x, y, by rw [sup_ne (Ne.symm ca)]; exact ha, hr⟩
    walk_at "bl"
    refine Go.r1' (n := 2) rfl (by decide) ?_
    refine forD_rng (fun w e s => ∃ (xs : List Int) (o1 o4 o5 o6 o7 o8 : Option D), e = [some (.lst (ns.map D.int)), o1, some (.ref a), some (.ref c), o4, o5, o6, o7, o8] ∧ s c = some (xs.map D.int) ∧ xs.length = w ∧ (∀ x ∈ xs, sm 110 x) ∧ Bg s a) ⟨[], _, _, _, _, _, _, rfl, sup_same, rfl, (fun _ h => by cases h), b2⟩ ?_ ?_
    · rintro w e s hw ⟨xs, o1, o4, o5, o6, o7, o8, rfl, hc1, hl1, hx, bs⟩
      refine ⟨_, rfl, fun N2 hnx2 _ _ _ _ => ?_⟩
      show sSeq _ _ [some (.lst (ns.map D.int)), o1, some (.ref a), some (.ref c), some (.int (0 + w)), o5, o6, o7, o8] _ _
      walk_at "bl"
      refine ⟨by decide, by decide +kernel, ?_⟩
      walk_at "bl"
      refine take_spec bs (by decide) (sm_k (by decide)) fun d S2 d0 d1 b3 f3 => ?_
      obtain ⟨x, x0, xs100, ex⟩ := mosts d0 d1
      refine Go.ixL ex ?_
      walk_at "bl"
      have hc2 : S2 c = some (xs.map D.int) := (f3 c ca).trans hc1
      refine appG rfl hc2 ?_
      walk_at "bl"
      refine take_spec b3 x0 (xs100.mono (by decide)) fun y S3 y0 y1 b4 f4 => ?_
      walk_at "bl"
      refine take_spec b4 (by decide) (sm_k (by decide)) fun z S4 z0 z1 b5 f5 => ?_
      walk_at "bl"
      have sz : sm 3 z := by unfold sm; omega
      refine Go.mul ((show sm 3 2 by unfold sm; decide).cmul sz (by decide)) ?_
      walk_at "bl"
      have sy : sm 100 y := by unfold sm at *; omega
      have s2 : sm 3 (1 - 2 * z) := by unfold sm; omega
      refine Go.mul (sy.cmul s2 (by decide)) ?_
      walk_at "bl"
      have hc4 : S4 c = some (xs.map D.int) := (f5 c ca).trans ((f4 c ca).trans hc2)
      refine appK hc4 (by rw [List.length_map]; omega) ?_
      walk_at "bl"
      refine hnx2 _ _ ⟨xs ++ [y * (1 - 2 * z)], _, _, _, _, _, _, rfl, by rw [sup_same, List.map_append]; rfl, by rw [List.length_append]; show _ + 1 = _; omega, fun u hu => ?_, ?_⟩
      · rcases List.mem_append.mp hu with hu | hu
        · exact hx u hu
        · rw [List.mem_singleton.mp hu]
          exact (sy.mul s2).mono (by decide)
      · obtain ⟨x, y, ha, hr⟩ := b5
        exact ⟨x, y, by rw [sup_ne (Ne.symm ca)]; exact ha, hr⟩
    · rintro e s ⟨xs, o1, o4, o5, o6, o7, o8, rfl, hc1, hl1, hx, bs⟩
      obtain ⟨p, q, rfl⟩ : ∃ p q, xs = [p, q] := by
        match xs, hl1 with
        | [p, q], _ => exact ⟨p, q, rfl⟩
      have sp := hx p (by simp)
      have sq := hx q (by simp)
      walk_at "bl"
      refine asg_ref hc1 rfl ?_
      dsimp only [List.set]
      walk_at "bl"
      refine refused_spec ?_
      walk_at "bl"
      refine frac_one sp (by decide) (by decide) ?_
      walk_at "bl"
      refine ne_refl (okN_pr (n := 1) _ _) (by decide) ?_
      walk_at "bl"
      refine frac_one sp (by decide) (by decide) ?_
      walk_at "bl"
      refine ne_refl (okN_pr (n := 1) _ _) (by decide) ?_
      walk_at "bl"
      refine Go.ifD (fun h => ?_) fun h => ?_
      · walk_at "bl"
        exact hnx _ _ ⟨_, _, _, _, _, _, _, _, rfl⟩
      · walk_at "bl"
        refine frac_spec h sp sq (by decide) (low_fr h) ?_
        walk_at "bl"
        refine low_spec h sp sq (by decide) (low_fr h) ?_
        generalize er : ((p : Rat) / (q : Rat)) = r
        walk_at "bl"
        refine ne_refl (okN_pr (n := 1) _ _) (by decide) ?_
        walk_at "bl"
        refine Go.isiK' (isi_tup _) ?_
        walk_at "bl"
        have hr : r * (q : Rat) = (p : Rat) := by rw [← er]; exact low_fr h
        refine frac_spec h sp sq (by decide) hr ?_
        walk_at "bl"
        refine ne_refl (okN_pr (n := 1) _ _) (by decide) ?_
        walk_at "bl"
        refine whole_spec ?_
        walk_at "bl"
        refine whole_spec ?_
        walk_at "bl"
        exact hnx _ _ ⟨_, _, _, _, _, _, _, _, rfl⟩
  · rintro e s ⟨o1, o2, o3, o4, o5, o6, o7, o8, rfl⟩
    walk_at "bl"
    rfl
end K01

end
namespace K01
open PySem PySem.Spec PyProof.Rows L2 Bl Lb
theorem facts {P : Program} {w : World} {K : PySem.W.Frag} {h : Heap} {mg : Str → Option Value} {f : Addr} (X : K.In h) (G : h.Ns mainGlobals mg) (hfa : mg ("law" : Str) = some (.ref f)) (c : He.SaysD fa fn K ∧ bx K = true) :
    ∃ fd : FuncData, (∀ (s : Shared) (v : Value), BindsTo s fd ⟨[v], []⟩ [("_law_script", v)]) ∧ ∀ base : Heap, K.In base → base.Ns mainGlobals mg → FnOk P w K mg base (L2.CX P w) 4 f fd ["_law_script"] (spLaw K 63) := by
  have T : Tp fa fn bx K mg := Tp.mk' X G c
  obtain ⟨fd, F⟩ := T.sy.def_ 8 (d := d_law) rfl
  have e := hfa.symm.trans (T.glo 25 (x := "law"))
  cases e
  refine ⟨fd, fun s v => FunD.bindsA (ps := ["_law_script"]) F (fun _ _ _ _ _ _ us hl => match us, hl with | [_], _ => rfl) s [v] rfl, fun base _ _ => ?_⟩
  have hok : FnOk P w K mg base (L2.CX P w) 4 _ fd ["_law_script"] (LSp K 1 m_law) := ok_law T F
  exact hok.imp (law_sp (mo_law (P := P) (w := w) (base := base) T) law_pure)
end K01
open PySem PySem.W PyProof.Rows
set_option maxHeartbeats 0 in
theorem PySem.Challenge.cw_bendlands_k01_fractions_made_holds : PySem.Challenge.rw_bendlands_k01_fractions_made.Holds := by
  w_on; o_law
  refine HandSHeadRun.head_any (r := OpenLaw.row PySem.Challenge.rw_bendlands_k01_fractions_made) (q := view (OpenLaw.row PySem.Challenge.rw_bendlands_k01_fractions_made).prog [21]) (H := K01.hk) (ob := Bl.obX 5 K01.fa K01.fn K01.bx) (M := 6000) (loose := K01.names) (d := HandSHeadRun.topDef (OpenLaw.row PySem.Challenge.rw_bendlands_k01_fractions_made).prog 21) (kwd := []) Bl.obX_eq
    (by kernel_rfl) (fun s => by kernel_rfl) K01.run (by kernel_rfl) (by kernel_rfl) (by kernel_rfl) (by rfl) (by first | assumption | decide +kernel) (by decide +kernel) ⟨rfl, rfl, rfl, rfl, rfl, by decide +kernel⟩ ?hw ?hc
  case hw => w_witness2
  case hc =>
    refine Bl.walk_ofX (l := PySem.Challenge.rw_bendlands_k01_fractions_made) (n := 63) (k := 4) (x := "_law_script") rfl (by decide) (by kernel_rfl) ⟨rfl, by decide, by decide⟩ ?F
    case F =>
      intro w mg fa h Y G hmg0
      obtain ⟨K, KX, c⟩ := Y
      have hmg : mg ("law" : PySem.Str) = some (.ref fa) := by
        have e : (HandSHeadRun.topDef (OpenLaw.row PySem.Challenge.rw_bendlands_k01_fractions_made).prog 21).name = ("law" : PySem.Str) := by kernel_rfl
        rw [← e]
        exact hmg0
      obtain ⟨fd, hb, hF⟩ := K01.facts (P := (PySem.Challenge.rw_bendlands_k01_fractions_made).prog) (w := w) KX G hmg c
      exact ⟨K, fd, KX, hb, hF⟩
