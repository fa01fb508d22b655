import PyProof.Rows.All
import HandS.ForMost
import HandS.ForExc
import HandS.Walk
import HandS.Wide
import HandS.IsInst
import HandS.Defaults
import HandS.Rev
import HandS.Zip
import HandS.TupAny
import HandS.Style
import HandS.Flow
import HandS.Deep
import HandS.TryOnly
import HandS.WordsExc
import HandS.MakeKwOnly
import HandS.WideBits
import HandS.HeadHook2
import HandS.HeadEnd
import HandS.Head0
import HandS.Head1
import HandS.Head2
import HandS.ExcIs
import PyProof.CollectIter
import PyProof.WalksMore
import HandS.RevTup
import KE.KUnpack
import KE.GoesEnum
import KE.GoesMore
import HandS.Dict
import PySem.Challenge.RW_bendlands_k17_things_apart
import HandS.SetFor
import HandS.Zip0
import KE.GoesZip
import KE.GoesEnumKw
import HandS.List
set_option Elab.async false
set_option linter.all false
set_option maxRecDepth 100000
set_option maxHeartbeats 4000000
/-! Data without addresses: tuples by their items, lists that are grown by their address; each construct of the text as a transformer over them. -/
namespace Bl
open PySem PySem.Spec PyProof.Rows L2

inductive D where
  | non | bl (b : Bool) | int (i : Int) | str (x : Str)
  | tup (ds : List D) | lst (ds : List D)
  | ref (a : Addr) | obj (a : Addr)

abbrev Sto := Addr → Option (List D)
def sup (S : Sto) (a : Addr) (ds : List D) : Sto := fun b => if b = a then some ds else S b
def sdel (S : Sto) (a : Addr) : Sto := fun b => if b = a then none else S b
theorem sup_same {S : Sto} {a : Addr} {ds : List D} : sup S a ds a = some ds := if_pos rfl
theorem sup_ne {S : Sto} {a b : Addr} {ds : List D} (h : b ≠ a) : sup S a ds b = S b := if_neg h
theorem sdel_same {S : Sto} {a : Addr} : sdel S a a = none := if_pos rfl
theorem sdel_ne {S : Sto} {a b : Addr} (h : b ≠ a) : sdel S a b = S b := if_neg h

/-- the written part, and the lists that are being made out of sight -/
structure Kz where
  K : PySem.W.Frag
  Z : Addr → Prop
/-- a list of the written part -/
def KL (K : PySem.W.Frag) (a : Addr) (xs : List V) : Prop :=
  ∃ (o : Obj) (its : Array Value) (n : Nat), K.lookup a = some o ∧ o.cls = .type "list" ∧ o.dict = none ∧ o.data = .seq its n ∧ its.size ≤ sizeLine ∧ Vals xs its.toList

mutual
inductive Rp (K : Kz) (S : Sto) (H : Hp) : D → V → Prop
  | non : Rp K S H .non .non
  | bl (b : Bool) : Rp K S H (.bl b) (.bl b)
  | int (i : Int) : Rp K S H (.int i) (.int i)
  | str (x : Str) : Rp K S H (.str x) (.str x)
  | tup {a : Addr} {vs : List V} {ds : List D} : SqT K.K H a vs → RpL K S H ds vs → Rp K S H (.tup ds) (.ref a)
  | lst {a : Addr} {vs : List V} {ds : List D} : Rd H a (.lst vs) → S a = none → ¬ K.Z a → RpL K S H ds vs → Rp K S H (.lst ds) (.ref a)
  | lstK {a : Addr} {vs : List V} {ds : List D} : KL K.K a vs → RpL K S H ds vs → Rp K S H (.lst ds) (.ref a)
  | ref (a : Addr) : Rp K S H (.ref a) (.ref a)
  | obj (a : Addr) : Rp K S H (.obj a) (.ref a)
inductive RpL (K : Kz) (S : Sto) (H : Hp) : List D → List V → Prop
  | nil : RpL K S H [] []
  | cons {d : D} {v : V} {ds : List D} {vs : List V} : Rp K S H d v → RpL K S H ds vs → RpL K S H (d :: ds) (v :: vs)
end

/-- the lists that are grown stand in the heap -/
structure RS (K : Kz) (S : Sto) (H : Hp) : Prop where
  at_ : ∀ a ds, S a = some ds → ∃ vs, H a = some (.lst vs) ∧ RpL K S H ds vs
  hid : ∀ b, K.Z b → S b = none ∧ ∃ vs, H b = some (.lst vs)
/-- what else stands, stands on -/
def Step (S : Sto) (H : Hp) (S' : Sto) (H' : Hp) : Prop := ∀ b o, H b = some o → S b = none → S' b = none ∧ H' b = some o
theorem Step.refl (S : Sto) (H : Hp) : Step S H S H := fun _ _ h n => ⟨n, h⟩
theorem Step.trans {S S1 S2 : Sto} {H H1 H2 : Hp} (a : Step S H S1 H1) (b : Step S1 H1 S2 H2) : Step S H S2 H2 := fun c o h n => by
  obtain ⟨n1, h1⟩ := a c o h n
  exact b c o h1 n1

theorem RS.off {K : Kz} {S : Sto} {H : Hp} {a : Addr} {o : HO} (rs : RS K S H) (h : H a = some o) (hn : ∀ vs, o ≠ .lst vs) : S a = none := by
  cases e : S a with
  | none => rfl
  | some ds =>
    obtain ⟨vs, q, _⟩ := rs.at_ a ds e
    rw [h] at q
    exact absurd (Option.some.inj q) (hn vs)
theorem RS.free {K : Kz} {S : Sto} {H : Hp} {a : Addr} (rs : RS K S H) (h : H a = none) : S a = none := by
  cases e : S a with
  | none => rfl
  | some ds =>
    obtain ⟨vs, q, _⟩ := rs.at_ a ds e
    rw [h] at q
    cases q
theorem Step.rdT {K : Kz} {S S' : Sto} {H H' : Hp} {a : Addr} {xs : List V} (st : Step S H S' H') (rs : RS K S H) (h : Rd H a (.tup xs)) : Rd H' a (.tup xs) := by
  rcases h with h | ⟨o, h⟩
  · exact .inl (st a _ h (rs.off h fun vs z => by cases z)).2
  · exact .inr ⟨o, (st a _ h (rs.off h fun vs z => by cases z)).2⟩
theorem Step.sqT {K : Kz} {S S' : Sto} {H H' : Hp} {a : Addr} {xs : List V} (st : Step S H S' H') (rs : RS K S H) (h : SqT K.K H a xs) : SqT K.K H' a xs := by
  rcases h with h | h
  · exact .inl (st.rdT rs h)
  · exact .inr h
theorem Step.rdL {S S' : Sto} {H H' : Hp} {a : Addr} {xs : List V} (st : Step S H S' H') (h : Rd H a (.lst xs)) (n : S a = none) : Rd H' a (.lst xs) ∧ S' a = none := by
  rcases h with h | ⟨o, h⟩
  · obtain ⟨n1, h1⟩ := st a _ h n
    exact ⟨.inl h1, n1⟩
  · obtain ⟨n1, h1⟩ := st a _ h n
    exact ⟨.inr ⟨o, h1⟩, n1⟩
section
variable {K : Kz} {S S' : Sto} {H H' : Hp}
mutual
theorem Rp.step (st : Step S H S' H') (rs : RS K S H) : ∀ (d : D) (v : V), Rp K S H d v → Rp K S' H' d v
  | .non, _, h => by cases h; exact .non
  | .bl b, _, h => by cases h; exact .bl b
  | .int i, _, h => by cases h; exact .int i
  | .str x, _, h => by cases h; exact .str x
  | .tup ds, _, h => by
    cases h with
    | tup hs ha => exact .tup (st.sqT rs hs) (RpL.step st rs ds _ ha)
  | .lst ds, _, h => by
    cases h with
    | lst hs hn hz ha => exact .lst (st.rdL hs hn).1 (st.rdL hs hn).2 hz (RpL.step st rs ds _ ha)
    | lstK hs ha => exact .lstK hs (RpL.step st rs ds _ ha)
  | .ref a, _, h => by cases h; exact .ref a
  | .obj a, _, h => by cases h; exact .obj a
theorem RpL.step (st : Step S H S' H') (rs : RS K S H) : ∀ (ds : List D) (vs : List V), RpL K S H ds vs → RpL K S' H' ds vs
  | [], _, h => by cases h; exact .nil
  | d :: ds, _, h => by
    cases h with
    | cons h1 h2 => exact .cons (Rp.step st rs d _ h1) (RpL.step st rs ds _ h2)
end
theorem RpL.length : ∀ {ds : List D} {vs : List V}, RpL K S H ds vs → ds.length = vs.length
  | [], _, h => by cases h; rfl
  | _ :: _, _, h => by
    cases h with
    | cons _ h2 => exact congrArg Nat.succ (RpL.length h2)
theorem RpL.get : ∀ {ds : List D} {vs : List V} {i : Nat} {d : D}, RpL K S H ds vs → ds[i]? = some d → ∃ v, vs[i]? = some v ∧ Rp K S H d v
  | [], _, i, d, _, e => by simp at e
  | d0 :: ds, _, i, d, h, e => by
    cases h with
    | cons h1 h2 =>
      cases i with
      | zero => simp at e; subst e; exact ⟨_, rfl, h1⟩
      | succ i =>
        obtain ⟨v, e1, e2⟩ := RpL.get (i := i) (d := d) h2 (by simpa using e)
        exact ⟨v, by simpa using e1, e2⟩
theorem RpL.get' : ∀ {ds : List D} {vs : List V} {i : Nat} {v : V}, RpL K S H ds vs → vs[i]? = some v → ∃ d, ds[i]? = some d ∧ Rp K S H d v
  | [], _, i, d, h, e => by cases h; simp at e
  | d0 :: ds, _, i, v, h, e => by
    cases h with
    | cons h1 h2 =>
      cases i with
      | zero => simp at e; subst e; exact ⟨_, rfl, h1⟩
      | succ i =>
        obtain ⟨d, e1, e2⟩ := RpL.get' (i := i) (v := v) h2 (by simpa using e)
        exact ⟨d, by simpa using e1, e2⟩
theorem RpL.append : ∀ {ds es : List D} {vs ws : List V}, RpL K S H ds vs → RpL K S H es ws → RpL K S H (ds ++ es) (vs ++ ws)
  | [], _, _, _, h, h2 => by cases h; exact h2
  | _ :: _, _, _, _, h, h2 => by
    cases h with
    | cons p q => exact .cons p (RpL.append q h2)
theorem RpL.take : ∀ {ds : List D} {vs : List V} (n : Nat), RpL K S H ds vs → RpL K S H (ds.take n) (vs.take n)
  | _, _, 0, _ => by simp; exact .nil
  | [], _, n + 1, h => by cases h; exact .nil
  | d :: ds, _, n + 1, h => by
    cases h with
    | cons p q => exact .cons p (RpL.take n q)
theorem RpL.drop : ∀ {ds : List D} {vs : List V} (n : Nat), RpL K S H ds vs → RpL K S H (ds.drop n) (vs.drop n)
  | _, _, 0, h => h
  | [], _, n + 1, h => by cases h; exact .nil
  | d :: ds, _, n + 1, h => by
    cases h with
    | cons p q => exact RpL.drop n q
theorem RpL.set : ∀ {ds : List D} {vs : List V} {d : D} {v : V} (i : Nat), RpL K S H ds vs → Rp K S H d v → RpL K S H (ds.set i d) (vs.set i v)
  | [], _, d, v, i, h, h1 => by cases h; exact .nil
  | _ :: _, _, d, v, i, h, h1 => by
    cases h with
    | cons p q =>
      cases i with
      | zero => exact .cons h1 q
      | succ i => exact .cons p (RpL.set i q h1)
theorem RpL.ints {ns : List Int} : RpL K S H (ns.map D.int) (ns.map V.int) := by
  induction ns with
  | nil => exact .nil
  | cons n r ih => exact .cons (.int n) ih
end

/-! ### the slots -/
abbrev Ev := List (Option D)
structure RE (K : Kz) (S : Sto) (H : Hp) (env : Ev) (σ : L2.St) : Prop where
  len : env.length = σ.length
  at_ : ∀ (i : Nat) (d : D), env[i]? = some (some d) → ∃ v, σ[i]? = some (some v) ∧ Rp K S H d v
section
variable {K : Kz} {S S' : Sto} {H H' : Hp} {env : Ev} {σ : L2.St}
theorem RE.step (st : Step S H S' H') (rs : RS K S H) (re : RE K S H env σ) : RE K S' H' env σ :=
  ⟨re.len, fun i d e => by
    obtain ⟨v, e1, r⟩ := re.at_ i d e
    exact ⟨v, e1, Rp.step st rs d v r⟩⟩
theorem RE.set (re : RE K S H env σ) {d : D} {v : V} (r : Rp K S H d v) (i : Nat) : RE K S H (env.set i (some d)) (σ.set i (some v)) := by
  refine ⟨by rw [List.length_set, List.length_set]; exact re.len, fun j e h => ?_⟩
  by_cases hj : i = j
  · subst hj
    by_cases hl : i < env.length
    · rw [List.getElem?_set_self hl] at h
      cases h
      exact ⟨v, List.getElem?_set_self (by rw [← re.len]; exact hl), r⟩
    · rw [List.getElem?_eq_none (by rw [List.length_set]; omega)] at h
      cases h
  · rw [List.getElem?_set_ne hj] at h
    rw [List.getElem?_set_ne hj]
    exact re.at_ j e h
theorem RE.unset (re : RE K S H env σ) (i : Nat) : RE K S H (env.set i none) (σ.set i none) := by
  refine ⟨by rw [List.length_set, List.length_set]; exact re.len, fun j e h => ?_⟩
  by_cases hj : i = j
  · subst hj
    by_cases hl : i < env.length
    · rw [List.getElem?_set_self hl] at h
      cases h
    · rw [List.getElem?_eq_none (by rw [List.length_set]; omega)] at h
      cases h
  · rw [List.getElem?_set_ne hj] at h
    rw [List.getElem?_set_ne hj]
    exact re.at_ j e h
theorem RE.start {ds : List D} {vs : List V} (r : RpL K S H ds vs) (n : Nat) : RE K S H (ds.map some ++ List.replicate n none) (vs.map some ++ List.replicate n none) := by
  refine ⟨by simp [r.length], fun i d h => ?_⟩
  by_cases hi : i < ds.length
  · rw [List.getElem?_append_left (by simpa using hi), List.getElem?_map] at h
    cases e : ds[i]? with
    | none => rw [e] at h; cases h
    | some x =>
      rw [e] at h
      cases h
      obtain ⟨v, e1, r1⟩ := r.get e
      have hv : i < vs.length := by rw [← r.length]; exact hi
      exact ⟨v, by rw [List.getElem?_append_left (by simpa using hv), List.getElem?_map, e1]; rfl, r1⟩
  · rw [List.getElem?_append_right (by simpa using hi), List.getElem?_replicate] at h
    split at h <;> cases h
end

/-! ### an exception -/
structure Xc where
  nm : Str
  fs : List (Str × D)
def RX (K : Kz) (S : Sto) (H : Hp) (x : Xc) (c : Value) (dx : Option Addr) : Prop :=
  (∃ C, PySem.W.nsIn K.K mainGlobals x.nm = some (some (.ref C)) ∧ c = .ref C) ∧ match dx with
    | none => x.fs = []
    | some a => x.fs ≠ [] ∧ ∃ fv : List (Str × V), H a = some (.xd fv) ∧ fv.map (·.1) = x.fs.map (·.1) ∧ RpL K S H (x.fs.map (·.2)) (fv.map (·.2))

/-! ### transformers -/
abbrev DK := D → Sto → Prop
abbrev EK := Xc → Sto → Prop
abbrev TX (α : Type) := Ev → Sto → (α → Sto → Prop) → EK → Prop
abbrev TEd := TX D
abbrev TTd := TX Bool
abbrev TAd := TX (List D)
structure Nd where
  nx : Ev → Sto → Prop
  rt : DK
  bk : Ev → Sto → Prop
  ct : Ev → Sto → Prop
  ex : Xc → Ev → Sto → Prop
abbrev TSd := Ev → Sto → Nd → Prop
abbrev TFd := List D → Sto → DK → EK → Prop
def MoE {α : Type} (t : TX α) : Prop := ∀ env S (Q Q' : α → Sto → Prop) (E E' : EK), (∀ d S, Q d S → Q' d S) → (∀ x S, E x S → E' x S) → t env S Q E → t env S Q' E'
structure NdLe (A B : Nd) : Prop where
  nx : ∀ e S, A.nx e S → B.nx e S
  rt : ∀ d S, A.rt d S → B.rt d S
  bk : ∀ e S, A.bk e S → B.bk e S
  ct : ∀ e S, A.ct e S → B.ct e S
  ex : ∀ x e S, A.ex x e S → B.ex x e S
def MoS (t : TSd) : Prop := ∀ env S (A B : Nd), NdLe A B → t env S A → t env S B
def MoF (f : TFd) : Prop := ∀ ds S (Q Q' : DK) (E E' : EK), (∀ d S, Q d S → Q' d S) → (∀ x S, E x S → E' x S) → f ds S Q E → f ds S Q' E'

structure Aft (K : Kz) (S : Sto) (H : Hp) (S' : Sto) (H' : Hp) : Prop where
  st : Step S H S' H'
  rs : RS K S' H'
theorem Aft.trans {K : Kz} {S S1 S2 : Sto} {H H1 H2 : Hp} (a : Aft K S H S1 H1) (b : Aft K S1 H1 S2 H2) : Aft K S H S2 H2 := ⟨a.st.trans b.st, b.rs⟩
theorem Aft.refl {K : Kz} {S : Sto} {H : Hp} (rs : RS K S H) : Aft K S H S H := ⟨Step.refl S H, rs⟩

/-- what is wanted of an exception -/
def PX (K : Kz) (S : Sto) (H : Hp) (σ : L2.St) (W : WX) : EK := fun x S' => ∀ c dx H', Aft K S H S' H' → RX K S' H' x c dx → W c dx σ H'
def LE (K : PySem.W.Frag) (W : WX) (t : TEd) : TE := fun σ H Q => ∃ Z env S, RE ⟨K, Z⟩ S H env σ ∧ RS ⟨K, Z⟩ S H ∧ t env S (fun d S' => ∀ v H', Aft ⟨K, Z⟩ S H S' H' → Rp ⟨K, Z⟩ S' H' d v → Q v H') (PX ⟨K, Z⟩ S H σ W)
def LT (K : PySem.W.Frag) (W : WX) (t : TTd) : TT := fun σ H Q => ∃ Z env S, RE ⟨K, Z⟩ S H env σ ∧ RS ⟨K, Z⟩ S H ∧ t env S (fun b S' => ∀ H', Aft ⟨K, Z⟩ S H S' H' → Q b H') (PX ⟨K, Z⟩ S H σ W)
def LA (K : PySem.W.Frag) (W : WX) (t : TAd) : TA := fun σ H Q => ∃ Z env S, RE ⟨K, Z⟩ S H env σ ∧ RS ⟨K, Z⟩ S H ∧ t env S (fun ds S' => ∀ vs H', Aft ⟨K, Z⟩ S H S' H' → RpL ⟨K, Z⟩ S' H' ds vs → Q vs H') (PX ⟨K, Z⟩ S H σ W)
def LN (K : Kz) (S : Sto) (H : Hp) (W : WX) (N : Ends) : Nd where
  nx := fun e S' => ∀ σ' H', Aft K S H S' H' → RE K S' H' e σ' → N.nx σ' H'
  rt := fun d S' => ∀ v H', Aft K S H S' H' → Rp K S' H' d v → N.rt v H'
  bk := fun e S' => ∀ σ' H', Aft K S H S' H' → RE K S' H' e σ' → N.bk σ' H'
  ct := fun e S' => ∀ σ' H', Aft K S H S' H' → RE K S' H' e σ' → N.ct σ' H'
  ex := fun x e S' => ∀ c dx σ' H', Aft K S H S' H' → RE K S' H' e σ' → RX K S' H' x c dx → W c dx σ' H'
def LS (K : PySem.W.Frag) (W : WX) (t : TSd) : TS := fun N σ H => ∃ Z env S, RE ⟨K, Z⟩ S H env σ ∧ RS ⟨K, Z⟩ S H ∧ t env S (LN ⟨K, Z⟩ S H W N)

structure JE (X : Cx) (W : WX) (e : Expr) (t : TEd) : Prop where
  pe : PE X e (LE X.K W t)
  mo : MoE t
structure JT (X : Cx) (W : WX) (e : Expr) (t : TTd) : Prop where
  pt : PT X e (LT X.K W t)
  mo : MoE t
structure JW (X : Cx) (W : WX) (e : Expr) (t : TTd) : Prop where
  pw : PW X e (LT X.K W t)
  mo : MoE t
structure JA (X : Cx) (W : WX) (es : List Expr) (t : TAd) : Prop where
  pa : PA X es (LA X.K W t)
  mo : MoE t
structure JS (X : Cx) (W : WX) (st : Stmt) (t : TSd) : Prop where
  ps : PS X st (LS X.K W t)
  mo : MoS t
structure JB (X : Cx) (W : WX) (st : List Stmt) (t : TSd) : Prop where
  ps : PSs X st (LS X.K W t)
  mo : MoS t

theorem PE.imp {X : Cx} {e : Expr} {t u : TE} (h : PE X e t) (k : ∀ σ H Q, u σ H Q → t σ H Q) : PE X e u := ⟨fun pins s σ H Q I q => h.run pins s σ H Q I (k σ H Q q)⟩
theorem PT.imp {X : Cx} {e : Expr} {t u : TT} (h : PT X e t) (k : ∀ σ H Q, u σ H Q → t σ H Q) : PT X e u := ⟨fun pins s σ H Q I q => h.run pins s σ H Q I (k σ H Q q)⟩
theorem PW.imp {X : Cx} {e : Expr} {t u : TT} (h : PW X e t) (k : ∀ σ H Q, u σ H Q → t σ H Q) : PW X e u := ⟨fun wh pins s σ H Q I q => h.run wh pins s σ H Q I (k σ H Q q)⟩
theorem PA.imp {X : Cx} {es : List Expr} {t u : TA} (h : PA X es t) (k : ∀ σ H Q, u σ H Q → t σ H Q) : PA X es u := ⟨fun p pins s σ H Q I q => h.run p pins s σ H Q I (k σ H Q q)⟩
theorem PS.imp {X : Cx} {st : Stmt} {t u : TS} (h : PS X st t) (k : ∀ N σ H, u N σ H → t N σ H) : PS X st u := ⟨fun pins s σ H N I q => h.run pins s σ H N I (k N σ H q)⟩
theorem PSs.imp {X : Cx} {st : List Stmt} {t u : TS} (h : PSs X st t) (k : ∀ N σ H, u N σ H → t N σ H) : PSs X st u := ⟨fun pins s σ H N I q => h.run pins s σ H N I (k N σ H q)⟩

/-! ### the lifted forms, from a state -/
section
variable {K : Kz} {W : WX} {S : Sto} {H : Hp} {env : Ev} {σ : L2.St}
theorem LE.of {t : TEd} (mo : MoE t) (re : RE K S H env σ) (rs : RS K S H) {C : DK} {E : EK} {R : VK} (h : t env S C E)
    (hc : ∀ d S1 v H1, C d S1 → Aft K S H S1 H1 → Rp K S1 H1 d v → R v H1) (he : ∀ x S1 c dx H1, E x S1 → Aft K S H S1 H1 → RX K S1 H1 x c dx → W c dx σ H1) : LE K.K W t σ H R :=
  ⟨K.Z, env, S, re, rs, mo _ _ _ _ _ _ (fun d S1 q v H1 a r => hc d S1 v H1 q a r) (fun x S1 q c dx H1 a r => he x S1 c dx H1 q a r) h⟩
theorem LT.of {t : TTd} (mo : MoE t) (re : RE K S H env σ) (rs : RS K S H) {C : Bool → Sto → Prop} {E : EK} {R : Bool → Hp → Prop} (h : t env S C E)
    (hc : ∀ d S1 H1, C d S1 → Aft K S H S1 H1 → R d H1) (he : ∀ x S1 c dx H1, E x S1 → Aft K S H S1 H1 → RX K S1 H1 x c dx → W c dx σ H1) : LT K.K W t σ H R :=
  ⟨K.Z, env, S, re, rs, mo _ _ _ _ _ _ (fun d S1 q H1 a => hc d S1 H1 q a) (fun x S1 q c dx H1 a r => he x S1 c dx H1 q a r) h⟩
theorem LA.of {t : TAd} (mo : MoE t) (re : RE K S H env σ) (rs : RS K S H) {C : List D → Sto → Prop} {E : EK} {R : List V → Hp → Prop} (h : t env S C E)
    (hc : ∀ d S1 v H1, C d S1 → Aft K S H S1 H1 → RpL K S1 H1 d v → R v H1) (he : ∀ x S1 c dx H1, E x S1 → Aft K S H S1 H1 → RX K S1 H1 x c dx → W c dx σ H1) : LA K.K W t σ H R :=
  ⟨K.Z, env, S, re, rs, mo _ _ _ _ _ _ (fun d S1 q v H1 a r => hc d S1 v H1 q a r) (fun x S1 q c dx H1 a r => he x S1 c dx H1 q a r) h⟩
theorem LS.of {t : TSd} (mo : MoS t) (re : RE K S H env σ) (rs : RS K S H) {N : Nd} {M : Ends} (h : t env S N) (hl : NdLe N (LN K S H W M)) : LS K.K W t M σ H :=
  ⟨K.Z, env, S, re, rs, mo _ _ _ _ hl h⟩
/-- exceptions behind a step -/
theorem PX.after {S1 : Sto} {H1 : Hp} (a : Aft K S H S1 H1) {x : Xc} {S2 : Sto} (h : PX K S H σ W x S2) : ∀ c dx H2, Aft K S1 H1 S2 H2 → RX K S2 H2 x c dx → W c dx σ H2 :=
  fun c dx H2 b r => h c dx H2 (a.trans b) r
theorem LN.after {S1 : Sto} {H1 : Hp} (a : Aft K S H S1 H1) (N : Ends) : NdLe (LN K S H W N) (LN K S1 H1 W N) :=
  ⟨fun e S2 h σ' H' b r => h σ' H' (a.trans b) r, fun d S2 h v H' b r => h v H' (a.trans b) r, fun e S2 h σ' H' b r => h σ' H' (a.trans b) r,
   fun e S2 h σ' H' b r => h σ' H' (a.trans b) r, fun x e S2 h c dx σ' H' b r q => h c dx σ' H' (a.trans b) r q⟩
end

/-! ### a list that is made out of sight -/
abbrev Kz.more (K : Kz) (p : Addr) : Kz := ⟨K.K, fun b => K.Z b ∨ b = p⟩
section
variable {K : Kz} {S : Sto} {H : Hp} {p : Addr}
mutual
theorem Rp.hide {xs : List V} (hp : H p = none) : ∀ (d : D) (v : V), Rp K S H d v → Rp (K.more p) S (upd H p (.lst xs)) d v
  | .non, _, h => by cases h; exact .non
  | .bl b, _, h => by cases h; exact .bl b
  | .int i, _, h => by cases h; exact .int i
  | .str x, _, h => by cases h; exact .str x
  | .tup ds, _, h => by
    cases h with
    | tup hs ha =>
      refine .tup ?_ (RpL.hide hp ds _ ha)
      rcases hs with (h | ⟨o, h⟩) | h
      · exact .inl (.inl (by rw [upd_ne (ne_of_none h hp)]; exact h))
      · exact .inl (.inr ⟨o, by rw [upd_ne (ne_of_none h hp)]; exact h⟩)
      · exact .inr h
  | .lst ds, _, h => by
    cases h with
    | lst hs hn hz ha =>
      rename_i a vs
      have ne : a ≠ p := by
        rcases hs with h | ⟨o, h⟩
        · exact ne_of_none h hp
        · exact ne_of_none h hp
      refine .lst ?_ hn (fun z => z.elim hz ne) (RpL.hide hp ds _ ha)
      rcases hs with h | ⟨o, h⟩
      · exact .inl (by rw [upd_ne ne]; exact h)
      · exact .inr ⟨o, by rw [upd_ne ne]; exact h⟩
    | lstK hs ha => exact .lstK hs (RpL.hide hp ds _ ha)
  | .ref a, _, h => by cases h; exact .ref a
  | .obj a, _, h => by cases h; exact .obj a
theorem RpL.hide {xs : List V} (hp : H p = none) : ∀ (ds : List D) (vs : List V), RpL K S H ds vs → RpL (K.more p) S (upd H p (.lst xs)) ds vs
  | [], _, h => by cases h; exact .nil
  | d :: ds, _, h => by
    cases h with
    | cons h1 h2 => exact .cons (Rp.hide hp d _ h1) (RpL.hide hp ds _ h2)
end
mutual
/-- the hidden list is written -/
theorem Rp.grow {xs ys : List V} (hp : H p = some (.lst ys)) : ∀ (d : D) (v : V), Rp (K.more p) S H d v → Rp (K.more p) S (upd H p (.lst xs)) d v
  | .non, _, h => by cases h; exact .non
  | .bl b, _, h => by cases h; exact .bl b
  | .int i, _, h => by cases h; exact .int i
  | .str x, _, h => by cases h; exact .str x
  | .tup ds, _, h => by
    cases h with
    | tup hs ha =>
      rename_i a vs
      refine .tup ?_ (RpL.grow hp ds _ ha)
      rcases hs with (h | ⟨o, h⟩) | h
      · exact .inl (.inl (by rw [upd_ne (ne_of h hp (by intro z; cases z))]; exact h))
      · exact .inl (.inr ⟨o, by rw [upd_ne (ne_of h hp (by intro z; cases z))]; exact h⟩)
      · exact .inr h
  | .lst ds, _, h => by
    cases h with
    | lst hs hn hz ha =>
      rename_i a vs
      have ne : a ≠ p := fun z => hz (.inr z)
      refine .lst ?_ hn hz (RpL.grow hp ds _ ha)
      rcases hs with h | ⟨o, h⟩
      · exact .inl (by rw [upd_ne ne]; exact h)
      · exact .inr ⟨o, by rw [upd_ne ne]; exact h⟩
    | lstK hs ha => exact .lstK hs (RpL.grow hp ds _ ha)
  | .ref a, _, h => by cases h; exact .ref a
  | .obj a, _, h => by cases h; exact .obj a
theorem RpL.grow {xs ys : List V} (hp : H p = some (.lst ys)) : ∀ (ds : List D) (vs : List V), RpL (K.more p) S H ds vs → RpL (K.more p) S (upd H p (.lst xs)) ds vs
  | [], _, h => by cases h; exact .nil
  | d :: ds, _, h => by
    cases h with
    | cons h1 h2 => exact .cons (Rp.grow hp d _ h1) (RpL.grow hp ds _ h2)
end
mutual
theorem Rp.show_ : ∀ (d : D) (v : V), Rp (K.more p) S H d v → Rp K S H d v
  | .non, _, h => by cases h; exact .non
  | .bl b, _, h => by cases h; exact .bl b
  | .int i, _, h => by cases h; exact .int i
  | .str x, _, h => by cases h; exact .str x
  | .tup ds, _, h => by
    cases h with
    | tup hs ha => exact .tup hs (RpL.show_ ds _ ha)
  | .lst ds, _, h => by
    cases h with
    | lst hs hn hz ha => exact .lst hs hn (fun z => hz (.inl z)) (RpL.show_ ds _ ha)
    | lstK hs ha => exact .lstK hs (RpL.show_ ds _ ha)
  | .ref a, _, h => by cases h; exact .ref a
  | .obj a, _, h => by cases h; exact .obj a
theorem RpL.show_ : ∀ (ds : List D) (vs : List V), RpL (K.more p) S H ds vs → RpL K S H ds vs
  | [], _, h => by cases h; exact .nil
  | d :: ds, _, h => by
    cases h with
    | cons h1 h2 => exact .cons (Rp.show_ d _ h1) (RpL.show_ ds _ h2)
end
mutual
/-- the list is told -/
theorem Rp.unhide {es : List D} : ∀ (d : D) (v : V), Rp (K.more p) S H d v → Rp K (sup S p es) H d v
  | .non, _, h => by cases h; exact .non
  | .bl b, _, h => by cases h; exact .bl b
  | .int i, _, h => by cases h; exact .int i
  | .str x, _, h => by cases h; exact .str x
  | .tup ds, _, h => by
    cases h with
    | tup hs ha => exact .tup hs (RpL.unhide ds _ ha)
  | .lst ds, _, h => by
    cases h with
    | lst hs hn hz ha => exact .lst hs (by rw [sup_ne fun z => hz (.inr z)]; exact hn) (fun z => hz (.inl z)) (RpL.unhide ds _ ha)
    | lstK hs ha => exact .lstK hs (RpL.unhide ds _ ha)
  | .ref a, _, h => by cases h; exact .ref a
  | .obj a, _, h => by cases h; exact .obj a
theorem RpL.unhide {es : List D} : ∀ (ds : List D) (vs : List V), RpL (K.more p) S H ds vs → RpL K (sup S p es) H ds vs
  | [], _, h => by cases h; exact .nil
  | d :: ds, _, h => by
    cases h with
    | cons h1 h2 => exact .cons (Rp.unhide d _ h1) (RpL.unhide ds _ h2)
end
theorem RS.hide {xs : List V} (rs : RS K S H) (hp : H p = none) : RS (K.more p) S (upd H p (.lst xs)) := by
  refine ⟨fun a ds e => ?_, fun b hb => ?_⟩
  · obtain ⟨vs, q, r⟩ := rs.at_ a ds e
    exact ⟨vs, by rw [upd_ne (ne_of_none q hp)]; exact q, RpL.hide hp _ _ r⟩
  · rcases hb with hb | rfl
    · obtain ⟨n, vs, q⟩ := rs.hid b hb
      exact ⟨n, vs, by rw [upd_ne (ne_of_none q hp)]; exact q⟩
    · exact ⟨rs.free hp, xs, upd_same⟩
theorem RS.grow {xs ys : List V} (rs : RS (K.more p) S H) (hp : H p = some (.lst ys)) : RS (K.more p) S (upd H p (.lst xs)) := by
  have np : S p = none := (rs.hid p (.inr rfl)).1
  refine ⟨fun a ds e => ?_, fun b hb => ?_⟩
  · obtain ⟨vs, q, r⟩ := rs.at_ a ds e
    have ne : a ≠ p := fun z => by rw [z, np] at e; cases e
    exact ⟨vs, by rw [upd_ne ne]; exact q, RpL.grow hp _ _ r⟩
  · obtain ⟨n, vs, q⟩ := rs.hid b hb
    by_cases hbp : b = p
    · subst hbp
      exact ⟨n, xs, upd_same⟩
    · exact ⟨n, vs, by rw [upd_ne hbp]; exact q⟩
theorem RS.show_ (rs : RS (K.more p) S H) : RS K S H := by
  refine ⟨fun a ds e => ?_, fun b hb => rs.hid b (.inl hb)⟩
  obtain ⟨vs, q, r⟩ := rs.at_ a ds e
  exact ⟨vs, q, RpL.show_ _ _ r⟩
theorem Rp.made {ds : List D} {vs : List V} (rs : RS (K.more p) S H) (hp : H p = some (.lst vs)) (hz : ¬ K.Z p) (r : RpL (K.more p) S H ds vs) : Rp K S H (.lst ds) (.ref p) :=
  .lst (.inl hp) (rs.hid p (.inr rfl)).1 hz (RpL.show_ _ _ r)
end
end Bl

namespace Bl
open PySem PySem.Spec PyProof.Rows L2

/-! ### where one stands -/
/-- a block's view: the slots that it sees, its locals, its cells; the module's and built-in names -/
structure Vw where
  vl : List Nat
  lo : List Nat
  ce : List Nat
  gs : List Str
/-- the names of a block by slot -/
structure Sc (N : List Str) (sc : Scope) (vw : Vw) : Prop where
  vis : ∀ i ∈ vw.vl, ∀ x, N[i]? = some x → Vis sc x ∧ (x == ("__debug__" : Str)) = false ∧ (x == ("__classdict__" : Str)) = false
  loc : ∀ i ∈ vw.lo, ∀ x, N[i]? = some x → sc.names.lookup x = some .local
  cel : ∀ i ∈ vw.ce, ∀ x, N[i]? = some x → sc.names.lookup x = some .cell
  gl : ∀ x ∈ vw.gs, sc.names.lookup x = some .globalImplicit ∧ x ≠ "__name__" ∧ (x == ("__debug__" : Str)) = false
def isLoc : Option NameKind → Bool
  | some .local => true
  | _ => false
def isCel : Option NameKind → Bool
  | some .cell => true
  | _ => false
def isVis : Option NameKind → Bool
  | some .local => true
  | some .cell => true
  | some .free => true
  | _ => false
def isGlo : Option NameKind → Bool
  | some .globalImplicit => true
  | _ => false
def scC (N : List Str) (sc : Scope) (vw : Vw) : Bool :=
  (vw.vl.all fun i => match N[i]? with
    | none => true
    | some x => isVis (sc.names.lookup x) && !(x == ("__debug__" : Str)) && !(x == ("__classdict__" : Str))) &&
  ((vw.lo.all fun i => match N[i]? with
    | none => true
    | some x => isLoc (sc.names.lookup x)) && (vw.ce.all fun i => match N[i]? with
    | none => true
    | some x => isCel (sc.names.lookup x))) &&
  (vw.gs.all fun x => isGlo (sc.names.lookup x) && decide (x ≠ "__name__") && !(x == ("__debug__" : Str)))
theorem scOf {N : List Str} {sc : Scope} {vw : Vw} (h : scC N sc vw = true) : Sc N sc vw := by
  unfold scC at h
  rw [Bool.and_eq_true, Bool.and_eq_true, Bool.and_eq_true, List.all_eq_true, List.all_eq_true, List.all_eq_true, List.all_eq_true] at h
  obtain ⟨⟨h1, h3, h4⟩, h2⟩ := h
  refine ⟨fun i hi x e => ?_, fun i hi x e => ?_, fun i hi x e => ?_, fun x hx => ?_⟩
  · have q := h1 i hi
    rw [e] at q
    simp only [Bool.and_eq_true, Bool.not_eq_true'] at q
    refine ⟨?_, q.1.2, q.2⟩
    have z := q.1.1
    unfold isVis at z
    unfold Vis
    split at z
    · exact .inl (by assumption)
    · exact .inr (.inl (by assumption))
    · exact .inr (.inr (by assumption))
    · cases z
  · have z := h3 i hi
    rw [e] at z
    dsimp only at z
    unfold isLoc at z
    split at z
    · assumption
    · cases z
  · have z := h4 i hi
    rw [e] at z
    dsimp only at z
    unfold isCel at z
    split at z
    · assumption
    · cases z
  · have q := h2 x hx
    simp only [Bool.and_eq_true, Bool.not_eq_true', decide_eq_true_eq] at q
    refine ⟨?_, q.1.2, q.2⟩
    have z := q.1.1
    unfold isGlo at z
    split at z
    · assumption
    · cases z

/-- what is told of the program and of the block -/
structure JC (P : Program) (w : World) (K : PySem.W.Frag) (mg : Str → Option Value) (base : Heap) (N : List Str) (sc : Scope) (vw : Vw) (k : Nat) (X : Cx) (W : WX) : Prop where
  prog : X.prog = P
  ww : X.w = w
  kk : X.K = K
  gg : X.mg = mg
  bb : X.base = base
  nn : X.N = N
  ss : X.env.scope = sc
  sC : Sc N sc vw
  nd : N.Nodup
  calm : X.calm = true
  room : Room k X.A
  tk : Takes X W
  kd : X.env.scope.kind = .function
/-- a def's own body -/
structure JD (P : Program) (w : World) (K : PySem.W.Frag) (mg : Str → Option Value) (base : Heap) (N : List Str) (sc : Scope) (vw : Vw) (k : Nat) (X : Cx) (W : WX) : Prop extends JC P w K mg base N sc vw k X W where
  po : PassesOwn (model X.prog X.w) X.A X.env X.xe
  fn : ∀ x, X.fn x = true
  hs : X.stack = X.env :: X.outer
  hf : X.env.frame = some X.env.locals

section
variable {P : Program} {w : World} {K : PySem.W.Frag} {mg : Str → Option Value} {base : Heap} {N : List Str} {sc : Scope} {vw : Vw} {k : Nat} {X : Cx} {W : WX}
theorem JC.gl (c : JC P w K mg base N sc vw k X W) {x : Str} (h : x ∈ vw.gs) : Gl X x := by
  show X.env.scope.names.lookup x = some .globalImplicit
  rw [c.ss]
  exact (c.sC.gl x h).1
end

/-! ### names, constants -/
def vr (i : Nat) : TEd := fun env S Q _ => match env[i]? with
  | some (some d) => Q d S
  | _ => False
def cn (d : D) : TEd := fun _ S Q _ => Q d S
section
variable {P : Program} {w : World} {K : PySem.W.Frag} {mg : Str → Option Value} {base : Heap} {N : List Str} {sc : Scope} {vw : Vw} {k : Nat} {X : Cx} {W : WX}
theorem moVr (i : Nat) : MoE (vr i) := fun env S Q Q' E E' h _ q => by
  unfold vr at q ⊢
  split at q
  · exact h _ _ q
  · exact q
theorem moCn (d : D) : MoE (cn d) := fun env S Q Q' E E' h _ q => h _ _ q
theorem jv (c : JC P w K mg base N sc vw k X W) (i : Nat) {x : Str} {pos : Pos} (hi : i ∈ vw.vl) (hN : N[i]? = some x) : JE X W (.Name x pos) (vr i) := by
  obtain ⟨v1, v2, v3⟩ := c.sC.vis i hi x hN
  refine ⟨PE.imp (pe_var (i := i) (by rw [c.nn]; exact hN) (by rw [c.ss]; exact v1) v2 v3) fun σ H Q h => ?_, moVr i⟩
  obtain ⟨Z, env, S, re, rs, q⟩ := h
  unfold vr at q
  split at q
  · rename_i d e
    obtain ⟨v, e1, r⟩ := re.at_ i d e
    exact ⟨v, e1, q v H (.refl rs) r⟩
  · exact q.elim
theorem LE.cn {W : WX} {d : D} {v : V} {σ : L2.St} {H : Hp} {Q : VK} (hr : ∀ Z S H, Rp ⟨K, Z⟩ S H d v) (h : LE K W (cn d) σ H Q) : Q v H := by
  obtain ⟨Z, env, S, re, rs, q⟩ := h
  exact q v H (.refl rs) (hr _ _ _)
theorem je_int {i : Int} {j : Nat} {pos : Pos} : JE X W (.Constant (.int i) j pos) (cn (.int i)) := ⟨PE.imp pe_int fun σ H Q h => LE.cn (fun _ _ _ => .int i) h, moCn _⟩
theorem je_bl {b : Bool} {j : Nat} {pos : Pos} : JE X W (.Constant (.bool b) j pos) (cn (.bl b)) := ⟨PE.imp pe_bl fun σ H Q h => LE.cn (fun _ _ _ => .bl b) h, moCn _⟩
theorem je_non {j : Nat} {pos : Pos} : JE X W (.Constant .none j pos) (cn .non) := ⟨PE.imp pe_non fun σ H Q h => LE.cn (fun _ _ _ => .non) h, moCn _⟩
theorem je_str {x : Str} {j : Nat} {pos : Pos} : JE X W (.Constant (.str x) j pos) (cn (.str x)) := ⟨PE.imp pe_str fun σ H Q h => LE.cn (fun _ _ _ => .str x) h, moCn _⟩
/-- a module's constant -/
structure GC (K : PySem.W.Frag) (mg : Str → Option Value) (x : Str) (d : D) : Prop where
  ex : ∃ u v, mg x = some u ∧ RelV v u ∧ ∀ Z S H, Rp ⟨K, Z⟩ S H d v
theorem je_glob (c : JC P w K mg base N sc vw k X W) {x : Str} {pos : Pos} {d : D} (hx : x ∈ vw.gs) (g : GC K mg x d) : JE X W (.Name x pos) (cn d) := by
  obtain ⟨u, v, e, r, q⟩ := g.ex
  have hk := c.kk
  subst hk
  exact ⟨PE.imp (pe_glob (c.gl hx) (by rw [c.gg]; exact e) r (c.sC.gl x hx).2.2) fun σ H Q h => LE.cn q h, moCn _⟩
end

/-! ### two operands -/
abbrev F2 := D → D → Sto → DK → Prop
def MoF2 (f : F2) : Prop := ∀ x y S (Q Q' : DK), (∀ d S, Q d S → Q' d S) → f x y S Q → f x y S Q'
def dTwo (ta tb : TEd) (f : F2) : TEd := fun env S Q E => ta env S (fun x S1 => tb env S1 (fun y S2 => f x y S2 Q) E) E
theorem moTwo {ta tb : TEd} {f : F2} (ha : MoE ta) (hb : MoE tb) (hf : MoF2 f) : MoE (dTwo ta tb f) := fun env S Q Q' E E' h he q =>
  ha _ _ _ _ _ _ (fun x S1 q1 => hb _ _ _ _ _ _ (fun y S2 q2 => hf _ _ _ _ _ h q2) he q1) he q
/-- what is wanted behind, from a state -/
abbrev PQ (K : Kz) (S : Sto) (H : Hp) (Q : VK) : DK := fun d S' => ∀ v H', Aft K S H S' H' → Rp K S' H' d v → Q v H'
theorem PQ.after {K : Kz} {S S1 : Sto} {H H1 : Hp} (a : Aft K S H S1 H1) {Q : VK} {d : D} {S2 : Sto} (h : PQ K S H Q d S2) : PQ K S1 H1 Q d S2 := fun v H' b r => h v H' (a.trans b) r
theorem two {K : PySem.W.Frag} {W : WX} {ta tb : TEd} {f : F2} (ha : MoE ta) (hb : MoE tb) (hf : MoF2 f) {σ : L2.St} {H : Hp} {Q : VK} (h : LE K W (dTwo ta tb f) σ H Q) :
    LE K W ta σ H fun x H1 => LE K W tb σ H1 fun y H2 => ∃ Z S dx dy, RS ⟨K, Z⟩ S H2 ∧ Rp ⟨K, Z⟩ S H2 dx x ∧ Rp ⟨K, Z⟩ S H2 dy y ∧ f dx dy S (PQ ⟨K, Z⟩ S H2 Q) := by
  obtain ⟨Z, env, S, re, rs, q⟩ := h
  refine LE.of ha re rs q (fun dx S1 x H1 q1 a1 r1 => ?_) fun x S1 c dx H1 q1 a1 r1 => q1 c dx H1 a1 r1
  refine LE.of hb (re.step a1.st rs) a1.rs q1 (fun dy S2 y H2 q2 a2 r2 => ?_) fun x S2 c dx H2 q2 a2 r2 => q2 c dx H2 (a1.trans a2) r2
  exact ⟨Z, S2, dx, dy, a2.rs, Rp.step a2.st a1.rs _ _ r1, r2, hf _ _ _ _ _ (fun d S3 q3 => PQ.after (a1.trans a2) q3) q2⟩

/-- an operator of two data -/
structure OpD (X : Cx) (g : Value → Value → Sem Value) (f : F2) : Prop where
  mo : MoF2 f
  run : ∀ (pins : List (Addr × Obj)) (s : Shared) (σ : L2.St) (H : Hp) (x y : V) (v u : Value) (Q : VK) (Z : Addr → Prop) (S : Sto) (dx dy : D), Inv X pins σ H s → RelV x v → RelV y u → RS ⟨X.K, Z⟩ S H → Rp ⟨X.K, Z⟩ S H dx x → Rp ⟨X.K, Z⟩ S H dy y →
    f dx dy S (PQ ⟨X.K, Z⟩ S H Q) → wpAny (model X.prog X.w) X.A (g v u) (EP X pins σ Q) X.xe s
section
variable {X : Cx} {W : WX} {a b : Expr} {ta tb : TEd} {pos : Pos}
theorem je_op {op : Operator} {f : F2} (ho : OpD X (binaryOp op) f) (ha : JE X W a ta) (hb : JE X W b tb) : JE X W (.BinOp a op b pos) (dTwo ta tb f) := by
  refine ⟨⟨fun pins s σ H Q I h => ?_⟩, moTwo ha.mo hb.mo ho.mo⟩
  refine wpAny_BinOp (bin ha.pe hb.pe I (two ha.mo hb.mo ho.mo h) fun v u s2 x y H2 I2 rx ry q => ?_)
  obtain ⟨Z, S, dx, dy, rs, r1, r2, q⟩ := q
  exact ho.run pins s2 σ H2 x y v u Q Z S dx dy I2 rx ry rs r1 r2 q
theorem je_cmp {op : CmpOp} {f : F2} (ho : OpD X (compareOp op) f) (ha : JE X W a ta) (hb : JE X W b tb) (hm : behindInMarks op b = false) : JE X W (.Compare a [op] [b] pos) (dTwo ta tb f) := by
  refine ⟨⟨fun pins s σ H Q I h => ?_⟩, moTwo ha.mo hb.mo ho.mo⟩
  refine wpAny_Compare1 (bin ha.pe hb.pe I (two ha.mo hb.mo ho.mo h) fun v u s2 x y H2 I2 rx ry q => ?_) hm
  obtain ⟨Z, S, dx, dy, rs, r1, r2, q⟩ := q
  exact ho.run pins s2 σ H2 x y v u Q Z S dx dy I2 rx ry rs r1 r2 q
end

/-! ### tests -/
/-- a value that is a truth, as a test -/
def tbl (t : TEd) : TTd := fun env S Q E => t env S (fun d S' => match d with | .bl b => Q b S' | _ => False) E
theorem moTbl {t : TEd} (h : MoE t) : MoE (tbl t) := fun env S Q Q' E E' hq he q => h _ _ _ _ _ _ (fun d S1 q1 => by
  cases d <;> first | exact hq _ _ q1 | exact q1) he q
theorem tblV {K : PySem.W.Frag} {W : WX} {t : TEd} (mo : MoE t) {σ : L2.St} {H : Hp} {Q : Bool → Hp → Prop} (h : LT K W (tbl t) σ H Q) : LE K W t σ H fun x H1 => ∃ c, x = .bl c ∧ Q c H1 := by
  obtain ⟨Z, env, S, re, rs, q⟩ := h
  refine LE.of mo re rs q (fun d S1 x H1 q1 a1 r1 => ?_) fun x S1 c dx H1 q1 a1 r1 => q1 c dx H1 a1 r1
  cases d <;> first | exact q1.elim | skip
  rename_i b
  cases r1
  exact ⟨b, rfl, q1 H1 a1⟩
/-- any value, by its truth -/
def truD : D → Sto → (Bool → Sto → Prop) → Prop := fun d S Q => match d with
  | .non => Q false S
  | .bl b => Q b S
  | .int i => Q (i != 0) S
  | .str x => x.length ≤ sizeLine ∧ Q ((x.length : Int) != 0) S
  | .tup ds => Q (!ds.isEmpty) S
  | .lst ds => Q (!ds.isEmpty) S
  | .ref a => match S a with | some ds => Q (!ds.isEmpty) S | none => False
  | .obj _ => False
def ttr (t : TEd) : TTd := fun env S Q E => t env S (fun d S' => truD d S' Q) E
theorem moTruD {d : D} {S : Sto} {Q Q' : Bool → Sto → Prop} (h : ∀ b S, Q b S → Q' b S) (q : truD d S Q) : truD d S Q' := by
  unfold truD at q ⊢
  cases d <;> first
    | exact h _ _ q
    | exact ⟨q.1, h _ _ q.2⟩
    | (dsimp only at q ⊢; split at q <;> first | exact h _ _ q | exact q.elim)
    | exact q
theorem moTtr {t : TEd} (h : MoE t) : MoE (ttr t) := fun env S Q Q' E E' hq he q => h _ _ _ _ _ _ (fun d S1 q1 => moTruD hq q1) he q
theorem isEmpty_rpl {K : Kz} {S : Sto} {H : Hp} {ds : List D} {vs : List V} (r : RpL K S H ds vs) : ds.isEmpty = vs.isEmpty := by
  cases r <;> rfl
theorem SqL.ofK {K : PySem.W.Frag} {H : Hp} {a : Addr} {vs : List V} (h : KL K a vs) : SqL K H a vs := .inr h
theorem truV {K : Kz} {S : Sto} {H : Hp} {d : D} {v : V} (rs : RS K S H) (r : Rp K S H d v) {Q : Bool → Hp → Prop} (q : truD d S fun b S' => ∀ H', Aft K S H S' H' → Q b H') : ∃ k, TruV K.K v H k ∧ Q k H := by
  have a0 : Aft K S H S H := .refl rs
  cases r with
  | non => exact ⟨false, rfl, q H a0⟩
  | bl b => exact ⟨b, rfl, q H a0⟩
  | int i => exact ⟨_, rfl, q H a0⟩
  | str x => exact ⟨_, ⟨q.1, rfl⟩, q.2 H a0⟩
  | tup hs ha => exact ⟨_, .inr (.inl ⟨_, hs, rfl⟩), by rw [← isEmpty_rpl ha]; exact q H a0⟩
  | lst hs hn hz ha => exact ⟨_, .inl ⟨_, .inl hs, rfl⟩, by rw [← isEmpty_rpl ha]; exact q H a0⟩
  | lstK hs ha => exact ⟨_, .inl ⟨_, SqL.ofK hs, rfl⟩, by rw [← isEmpty_rpl ha]; exact q H a0⟩
  | ref a =>
    unfold truD at q
    dsimp only at q
    split at q
    · rename_i ds e
      obtain ⟨vs, e1, r1⟩ := rs.at_ a ds e
      exact ⟨_, .inl ⟨_, SqL.of e1, rfl⟩, by rw [← isEmpty_rpl r1]; exact q H a0⟩
    · exact q.elim
  | obj a => exact q.elim
def tAndD (t u : TTd) : TTd := fun env S Q E => t env S (fun c S1 => if c = true then u env S1 Q E else Q false S1) E
def tOrD (t u : TTd) : TTd := fun env S Q E => t env S (fun c S1 => if c = true then Q true S1 else u env S1 Q E) E
def tNotD (t : TTd) : TTd := fun env S Q E => t env S (fun c S1 => Q (!c) S1) E
/-- and, or, not, a comparison as values: truths -/
def vOf (t : TTd) : TEd := fun env S Q E => t env S (fun c S1 => Q (.bl c) S1) E
def eIf (t : TTd) (ta tb : TEd) : TEd := fun env S Q E => t env S (fun c S1 => if c = true then ta env S1 Q E else tb env S1 Q E) E
section
variable {X : Cx} {W : WX} {a b : Expr} {ta tb : TEd} {pos : Pos} {t u : TTd} {rest : List Expr}
theorem jt_tru (h : JE X W a ta) (he : ∀ whole, isTrue a X.env whole = (do let v ← whole; standAt a.pos; holding [v] (truthy v)) := by intro _; rfl) : JT X W a (ttr ta) := by
  refine ⟨PT.imp (pt_truth h.pe he) fun σ H Q q => ?_, moTtr h.mo⟩
  obtain ⟨Z, env, S, re, rs, q⟩ := q
  refine LE.of h.mo re rs q (fun d S1 x H1 q1 a1 r1 => ?_) fun x S1 c dx H1 q1 a1 r1 => q1 c dx H1 a1 r1
  exact truV a1.rs r1 (moTruD (fun b S2 q2 H2 a2 => q2 H2 (a1.trans a2)) q1)
theorem jt_cmp {op : CmpOp} {f : F2} (ho : OpD X (compareOp op) f) (ha : JE X W a ta) (hb : JE X W b tb) (hm : behindInMarks op b = false) : JT X W (.Compare a [op] [b] pos) (tbl (dTwo ta tb f)) := by
  refine ⟨⟨fun pins s σ H Q I h => ?_⟩, moTbl (moTwo ha.mo hb.mo ho.mo)⟩
  refine wpAny_isTrue_Compare1 (thn (bin ha.pe hb.pe I (two ha.mo hb.mo ho.mo (tblV (moTwo ha.mo hb.mo ho.mo) h)) fun v u s2 x y H2 I2 rx ry q => ?_) fun v s1 h1 => thn h1 fun u s2 h2 => thn h2 fun c s3 z => z) hm
  obtain ⟨Z, S, dx, dy, rs, r1, r2, q⟩ := q
  refine thn (ho.run pins s2 σ H2 x y v u _ Z S dx dy I2 rx ry rs r1 r2 q) fun c s3 ⟨x, H1, I1, r1, q1⟩ => ?_
  obtain ⟨d, rfl, q⟩ := q1
  cases r1
  exact wpAny_truthy_bool ⟨H1, I1, q⟩
theorem jt_w (h : JW X W a t) : JT X W a t := ⟨h.pw.pt, h.mo⟩
theorem moAndD (h : MoE t) (h2 : MoE u) : MoE (tAndD t u) := fun env S Q Q' E E' hq he q => h _ _ _ _ _ _ (fun c S1 q1 => by
  cases c
  · exact hq _ _ q1
  · exact h2 _ _ _ _ _ _ hq he q1) he q
theorem moOrD (h : MoE t) (h2 : MoE u) : MoE (tOrD t u) := fun env S Q Q' E E' hq he q => h _ _ _ _ _ _ (fun c S1 q1 => by
  cases c
  · exact h2 _ _ _ _ _ _ hq he q1
  · exact hq _ _ q1) he q
theorem moNotD (h : MoE t) : MoE (tNotD t) := fun env S Q Q' E E' hq he q => h _ _ _ _ _ _ (fun c S1 q1 => hq _ _ q1) he q
theorem moVOf (h : MoE t) : MoE (vOf t) := fun env S Q Q' E E' hq he q => h _ _ _ _ _ _ (fun c S1 q1 => hq _ _ q1) he q
theorem moEIf (h : MoE t) (ha : MoE ta) (hb : MoE tb) : MoE (eIf t ta tb) := fun env S Q Q' E E' hq he q => h _ _ _ _ _ _ (fun c S1 q1 => by
  cases c
  · exact hb _ _ _ _ _ _ hq he q1
  · exact ha _ _ _ _ _ _ hq he q1) he q
theorem jw_and1 (ha : JT X W a t) : JW X W (.BoolOp .And [a] pos) t := ⟨pw_and1 ha.pt, ha.mo⟩
theorem jw_or1 (ha : JT X W a t) : JW X W (.BoolOp .Or [a] pos) t := ⟨pw_or1 ha.pt, ha.mo⟩
theorem jw_and (ha : JT X W a t) (hb : JW X W (.BoolOp .And (b :: rest) pos) u) : JW X W (.BoolOp .And (a :: b :: rest) pos) (tAndD t u) := by
  refine ⟨PW.imp (pw_and ha.pt hb.pw) fun σ H Q h => ?_, moAndD ha.mo hb.mo⟩
  obtain ⟨Z, env, S, re, rs, q⟩ := h
  refine LT.of ha.mo re rs q (fun c S1 H1 q1 a1 => ?_) fun x S1 c dx H1 q1 a1 r1 => q1 c dx H1 a1 r1
  cases c with
  | false => exact iteF (q1 H1 a1)
  | true => exact iteT (LT.of hb.mo (re.step a1.st rs) a1.rs q1 (fun c2 S2 H2 q2 a2 => q2 H2 (a1.trans a2)) fun x S2 c dx H2 q2 a2 r2 => q2 c dx H2 (a1.trans a2) r2)
theorem jw_or (ha : JT X W a t) (hb : JW X W (.BoolOp .Or (b :: rest) pos) u) : JW X W (.BoolOp .Or (a :: b :: rest) pos) (tOrD t u) := by
  refine ⟨PW.imp (pw_or ha.pt hb.pw) fun σ H Q h => ?_, moOrD ha.mo hb.mo⟩
  obtain ⟨Z, env, S, re, rs, q⟩ := h
  refine LT.of ha.mo re rs q (fun c S1 H1 q1 a1 => ?_) fun x S1 c dx H1 q1 a1 r1 => q1 c dx H1 a1 r1
  cases c with
  | true => exact iteT (q1 H1 a1)
  | false => exact iteF (LT.of hb.mo (re.step a1.st rs) a1.rs q1 (fun c2 S2 H2 q2 a2 => q2 H2 (a1.trans a2)) fun x S2 c dx H2 q2 a2 r2 => q2 c dx H2 (a1.trans a2) r2)
theorem jt_not (ha : JT X W a t) : JT X W (.UnaryOp .Not a pos) (tNotD t) := by
  refine ⟨PT.imp (pt_not ha.pt) fun σ H Q h => ?_, moNotD ha.mo⟩
  obtain ⟨Z, env, S, re, rs, q⟩ := h
  exact LT.of ha.mo re rs q (fun c S1 H1 q1 a1 => q1 H1 a1) fun x S1 c dx H1 q1 a1 r1 => q1 c dx H1 a1 r1
theorem je_ifExp {c : Expr} (hc : JT X W c t) (ha : JE X W a ta) (hb : JE X W b tb) : JE X W (.IfExp c a b pos) (eIf t ta tb) := by
  refine ⟨PE.imp (pe_ifExp hc.pt ha.pe hb.pe) fun σ H Q h => ?_, moEIf hc.mo ha.mo hb.mo⟩
  obtain ⟨Z, env, S, re, rs, q⟩ := h
  refine LT.of hc.mo re rs q (fun c S1 H1 q1 a1 => ?_) fun x S1 c dx H1 q1 a1 r1 => q1 c dx H1 a1 r1
  cases c with
  | true => exact iteT (LE.of ha.mo (re.step a1.st rs) a1.rs q1 (fun d S2 v H2 q2 a2 r2 => q2 v H2 (a1.trans a2) r2) fun x S2 c dx H2 q2 a2 r2 => q2 c dx H2 (a1.trans a2) r2)
  | false => exact iteF (LE.of hb.mo (re.step a1.st rs) a1.rs q1 (fun d S2 v H2 q2 a2 r2 => q2 v H2 (a1.trans a2) r2) fun x S2 c dx H2 q2 a2 r2 => q2 c dx H2 (a1.trans a2) r2)
/-! truths as values -/
theorem je_one {op : BoolOp} (h : JE X W a ta) : JE X W (.BoolOp op [a] pos) ta := ⟨pe_one h.pe, h.mo⟩
theorem je_and (ha : JE X W a ta) (hb : JE X W (.BoolOp .And (b :: rest) pos) tb) : JE X W (.BoolOp .And (a :: b :: rest) pos) (eIf (tbl ta) tb (cn (.bl false))) := by
  refine ⟨PE.imp (pe_and ha.pe hb.pe) fun σ H Q h => ?_, moEIf (moTbl ha.mo) hb.mo (moCn _)⟩
  obtain ⟨Z, env, S, re, rs, q⟩ := h
  refine LE.of ha.mo re rs q (fun d S1 x H1 q1 a1 r1 => ?_) fun x S1 c dx H1 q1 a1 r1 => q1 c dx H1 a1 r1
  cases d <;> first | exact q1.elim | skip
  rename_i c
  cases r1
  refine ⟨c, rfl, ?_⟩
  cases c with
  | true => exact iteT (LE.of hb.mo (re.step a1.st rs) a1.rs q1 (fun d S2 v H2 q2 a2 r2 => q2 v H2 (a1.trans a2) r2) fun x S2 c dx H2 q2 a2 r2 => q2 c dx H2 (a1.trans a2) r2)
  | false => exact iteF (q1 _ H1 a1 (.bl false))
def vNot (ta : TEd) : TEd := vOf (tNotD (tbl ta))
end

/-! ### whole numbers -/
def CMul' (i j : Int) : Prop := i.natAbs.log2 + j.natAbs.log2 < 1000000
def CDiv' (j : Int) : Prop := j ≠ 0 ∧ j.natAbs.log2 < 9000
def fAdd : F2 := fun x y S Q => match x, y with
  | .int i, .int j => Q (.int (i + j)) S
  | .str i, .str j => i.length + j.length ≤ sizeLine ∧ Q (.str (i ++ j)) S
  | .tup a, .tup b => a.length + b.length ≤ sizeLine ∧ Q (.tup (a ++ b)) S
  | _, _ => False
def fSub : F2 := fun x y S Q => match x, y with
  | .int i, .int j => Q (.int (i - j)) S
  | _, _ => False
def fMul : F2 := fun x y S Q => match x, y with
  | .int i, .int j => CMul' i j ∧ Q (.int (i * j)) S
  | _, _ => False
def fDiv : F2 := fun x y S Q => match x, y with
  | .int i, .int j => CDiv' j ∧ Q (.int (i.fdiv j)) S
  | _, _ => False
def fMod : F2 := fun x y S Q => match x, y with
  | .int i, .int j => j ≠ 0 ∧ Q (.int (i.fmod j)) S
  | _, _ => False
def fPow : F2 := fun x y S Q => match x, y with
  | .int i, .int j => 0 ≤ j ∧ (Builtin.Int.intBits i : Int) * j ≤ 2 ^ 27 ∧ Q (.int (i ^ j.toNat)) S
  | _, _ => False
def fShl : F2 := fun x y S Q => match x, y with
  | .int i, .int j => (0 ≤ j ∧ j ≤ 1000000 ∧ i.natAbs < 2 ^ 64) ∧ Q (.int (i * 2 ^ j.toNat)) S
  | _, _ => False
def fLt : F2 := fun x y S Q => match x, y with
  | .int i, .int j => Q (.bl (decide (i < j))) S
  | _, _ => False
def fLe : F2 := fun x y S Q => match x, y with
  | .int i, .int j => Q (.bl (decide (i ≤ j))) S
  | _, _ => False
def fGt : F2 := fun x y S Q => match x, y with
  | .int i, .int j => Q (.bl (decide (j < i))) S
  | _, _ => False
def fGe : F2 := fun x y S Q => match x, y with
  | .int i, .int j => Q (.bl (decide (j ≤ i))) S
  | _, _ => False
theorem moAdd : MoF2 fAdd := by (intro x y S Q Q' h q; unfold fAdd at q ⊢; split at q <;> first | exact h _ _ q | exact ⟨q.1, h _ _ q.2⟩ | exact ⟨q.1, q.2.1, h _ _ q.2.2⟩ | exact q.elim)
theorem moSub : MoF2 fSub := by (intro x y S Q Q' h q; unfold fSub at q ⊢; split at q <;> first | exact h _ _ q | exact ⟨q.1, h _ _ q.2⟩ | exact ⟨q.1, q.2.1, h _ _ q.2.2⟩ | exact q.elim)
theorem moMul : MoF2 fMul := by (intro x y S Q Q' h q; unfold fMul at q ⊢; split at q <;> first | exact h _ _ q | exact ⟨q.1, h _ _ q.2⟩ | exact ⟨q.1, q.2.1, h _ _ q.2.2⟩ | exact q.elim)
theorem moDiv : MoF2 fDiv := by (intro x y S Q Q' h q; unfold fDiv at q ⊢; split at q <;> first | exact h _ _ q | exact ⟨q.1, h _ _ q.2⟩ | exact ⟨q.1, q.2.1, h _ _ q.2.2⟩ | exact q.elim)
theorem moMod : MoF2 fMod := by (intro x y S Q Q' h q; unfold fMod at q ⊢; split at q <;> first | exact h _ _ q | exact ⟨q.1, h _ _ q.2⟩ | exact ⟨q.1, q.2.1, h _ _ q.2.2⟩ | exact q.elim)
theorem moPow : MoF2 fPow := by (intro x y S Q Q' h q; unfold fPow at q ⊢; split at q <;> first | exact h _ _ q | exact ⟨q.1, h _ _ q.2⟩ | exact ⟨q.1, q.2.1, h _ _ q.2.2⟩ | exact q.elim)
theorem moShl : MoF2 fShl := by (intro x y S Q Q' h q; unfold fShl at q ⊢; split at q <;> first | exact h _ _ q | exact ⟨q.1, h _ _ q.2⟩ | exact ⟨q.1, q.2.1, h _ _ q.2.2⟩ | exact q.elim)
theorem moLt : MoF2 fLt := by (intro x y S Q Q' h q; unfold fLt at q ⊢; split at q <;> first | exact h _ _ q | exact ⟨q.1, h _ _ q.2⟩ | exact ⟨q.1, q.2.1, h _ _ q.2.2⟩ | exact q.elim)
theorem moLe : MoF2 fLe := by (intro x y S Q Q' h q; unfold fLe at q ⊢; split at q <;> first | exact h _ _ q | exact ⟨q.1, h _ _ q.2⟩ | exact ⟨q.1, q.2.1, h _ _ q.2.2⟩ | exact q.elim)
theorem moGt : MoF2 fGt := by (intro x y S Q Q' h q; unfold fGt at q ⊢; split at q <;> first | exact h _ _ q | exact ⟨q.1, h _ _ q.2⟩ | exact ⟨q.1, q.2.1, h _ _ q.2.2⟩ | exact q.elim)
theorem moGe : MoF2 fGe := by (intro x y S Q Q' h q; unfold fGe at q ⊢; split at q <;> first | exact h _ _ q | exact ⟨q.1, h _ _ q.2⟩ | exact ⟨q.1, q.2.1, h _ _ q.2.2⟩ | exact q.elim)
theorem RS.newN {K : Kz} {S : Sto} {H : Hp} {p : Addr} {o : HO} (rs : RS K S H) (hp : H p = none) : Aft K S H S (upd H p o) := by
  have st : Step S H S (upd H p o) := fun b u h n => ⟨n, by rw [upd_ne (ne_of_none h hp)]; exact h⟩
  refine ⟨st, fun a es e => ?_, fun b hb => ?_⟩
  · obtain ⟨ws, q, r⟩ := rs.at_ a es e
    exact ⟨ws, by rw [upd_ne (ne_of_none q hp)]; exact q, RpL.step st rs _ _ r⟩
  · obtain ⟨n, vs, q⟩ := rs.hid b hb
    exact ⟨n, vs, by rw [upd_ne (ne_of_none q hp)]; exact q⟩
theorem RS.nz {K : Kz} {S : Sto} {H : Hp} {p : Addr} (rs : RS K S H) (hp : H p = none) : ¬ K.Z p := fun z => by
  obtain ⟨_, vs, q⟩ := rs.hid p z
  rw [hp] at q
  cases q
theorem Rp.newT {K : Kz} {S : Sto} {H : Hp} {ds : List D} {vs : List V} {p : Addr} (rs : RS K S H) (hp : H p = none) (r : RpL K S H ds vs) : Aft K S H S (upd H p (.tup vs)) ∧ Rp K S (upd H p (.tup vs)) (.tup ds) (.ref p) := by
  have a := rs.newN (o := .tup vs) hp
  exact ⟨a, .tup (SqT.of upd_same) (RpL.step a.st rs _ _ r)⟩
theorem Rp.newL {K : Kz} {S : Sto} {H : Hp} {ds : List D} {vs : List V} {p : Addr} (rs : RS K S H) (hp : H p = none) (r : RpL K S H ds vs) : Aft K S H S (upd H p (.lst vs)) ∧ Rp K S (upd H p (.lst vs)) (.lst ds) (.ref p) := by
  have a := rs.newN (o := .lst vs) hp
  exact ⟨a, .lst (.inl upd_same) (rs.free hp) (rs.nz hp) (RpL.step a.st rs _ _ r)⟩
/-- a grown list's items are told anew -/
theorem RS.tell {K : Kz} {S S' : Sto} {H H' : Hp} {ds : List D} {vs : List V} {p : Addr} (rs : RS K S H) (st : Step S H (sup S p ds) (upd H p (.lst vs))) (nz : ¬ K.Z p) (r : RpL K S H ds vs) : Aft K S H (sup S p ds) (upd H p (.lst vs)) := by
  refine ⟨st, fun a es e => ?_, fun b hb => ?_⟩
  · by_cases ha : a = p
    · subst ha
      rw [sup_same] at e
      cases e
      exact ⟨vs, upd_same, RpL.step st rs _ _ r⟩
    · rw [sup_ne ha] at e
      obtain ⟨ws, q, r⟩ := rs.at_ a es e
      exact ⟨ws, by rw [upd_ne ha]; exact q, RpL.step st rs _ _ r⟩
  · have ne : b ≠ p := fun z => nz (z ▸ hb)
    obtain ⟨n, ws, q⟩ := rs.hid b hb
    exact ⟨by rw [sup_ne ne]; exact n, ws, by rw [upd_ne ne]; exact q⟩
/-- a list that is to be grown -/
theorem Rp.newR {K : Kz} {S : Sto} {H : Hp} {ds : List D} {vs : List V} {p : Addr} (rs : RS K S H) (hp : H p = none) (r : RpL K S H ds vs) : Aft K S H (sup S p ds) (upd H p (.lst vs)) :=
  rs.tell (S' := S) (H' := H) (fun b o h n => ⟨by rw [sup_ne (ne_of_none h hp)]; exact n, by rw [upd_ne (ne_of_none h hp)]; exact h⟩) (rs.nz hp) r
theorem RS.nzS {K : Kz} {S : Sto} {H : Hp} {p : Addr} {es : List D} (rs : RS K S H) (hp : S p = some es) : ¬ K.Z p := fun z => by
  have n := (rs.hid p z).1
  rw [hp] at n
  cases n
/-- a grown list is written -/
theorem Rp.putR {K : Kz} {S : Sto} {H : Hp} {ds es : List D} {vs : List V} {p : Addr} (rs : RS K S H) (hp : S p = some es) (r : RpL K S H ds vs) : Aft K S H (sup S p ds) (upd H p (.lst vs)) := by
  have np : ∀ b, S b = none → b ≠ p := fun b n e => by rw [e, hp] at n; cases n
  exact rs.tell (S' := S) (H' := H) (fun b o h n => ⟨by rw [sup_ne (np b n)]; exact n, by rw [upd_ne (np b n)]; exact h⟩) (rs.nzS hp) r
/-- a grown list is grown no more -/
theorem Rp.frz {K : Kz} {S : Sto} {H : Hp} {ds : List D} {p : Addr} (rs : RS K S H) (hp : S p = some ds) : Aft K S H (sdel S p) H ∧ Rp K (sdel S p) H (.lst ds) (.ref p) := by
  have np : ∀ b, S b = none → b ≠ p := fun b n e => by rw [e, hp] at n; cases n
  have st : Step S H (sdel S p) H := fun b o h n => ⟨by rw [sdel_ne (np b n)]; exact n, h⟩
  obtain ⟨vs, e, r⟩ := rs.at_ p ds hp
  refine ⟨⟨st, fun a es q => ?_, fun b hb => ?_⟩, .lst (.inl e) sdel_same (rs.nzS hp) (RpL.step st rs _ _ r)⟩
  · by_cases ha : a = p
    · subst ha
      rw [sdel_same] at q
      cases q
    · rw [sdel_ne ha] at q
      obtain ⟨ws, z, r⟩ := rs.at_ a es q
      exact ⟨ws, z, RpL.step st rs _ _ r⟩
  · obtain ⟨n, q⟩ := rs.hid b hb
    exact ⟨by rw [sdel_ne (np b n)]; exact n, q⟩
section
variable {X : Cx}
theorem opD_add : OpD X (binaryOp .Add) fAdd := by
  refine ⟨moAdd, fun pins s σ H x y v u Q Z S dx dy I rx ry rs r1 r2 h => ?_⟩
  cases r1 with
  | int i =>
    cases r2 with
    | int j => exact op_add pins s σ H _ _ v u Q I rx ry ⟨i, j, rfl, rfl, h _ H (.refl rs) (.int _)⟩
    | _ => exact h.elim
  | str i =>
    cases r2 with
    | str j => exact op_add_str pins s σ H _ _ v u Q I rx ry ⟨i, j, rfl, rfl, h.1, h.2 _ H (.refl rs) (.str _)⟩
    | _ => exact h.elim
  | tup hs ha =>
    cases r2 with
    | tup hs2 ha2 =>
      rename_i a xs ds b ys es
      have l1 := ha.length
      have l2 := ha2.length
      refine op_catA pins s σ H _ _ v u Q I rx ry ⟨a, b, xs, ys, rfl, rfl, hs, hs2, by rw [← l1, ← l2]; exact h.1, fun e => ?_, fun _ e => ?_, fun _ _ p hp => ?_⟩
      · subst e
        cases ha
        exact h.2 _ H (.refl rs) (.tup hs2 ha2)
      · subst e
        cases ha2
        exact h.2 _ H (.refl rs) (by rw [List.append_nil]; exact .tup hs ha)
      · obtain ⟨a1, r⟩ := Rp.newT rs hp (ha.append ha2)
        exact h.2 _ _ a1 r
    | _ => exact h.elim
  | _ => cases r2 <;> exact h.elim
theorem opD_sub : OpD X (binaryOp .Sub) fSub := by
  refine ⟨moSub, fun pins s σ H x y v u Q Z S dx dy I rx ry rs r1 r2 h => ?_⟩
  cases r1 <;> cases r2 <;> first | exact h.elim | skip
  exact op_sub pins s σ H _ _ v u Q I rx ry ⟨_, _, rfl, rfl, h _ H (.refl rs) (.int _)⟩
theorem opD_mul : OpD X (binaryOp .Mult) fMul := by
  refine ⟨moMul, fun pins s σ H x y v u Q Z S dx dy I rx ry rs r1 r2 h => ?_⟩
  cases r1 <;> cases r2 <;> first | exact h.elim | skip
  exact op_mulW pins s σ H _ _ v u Q I rx ry ⟨_, _, rfl, rfl, h.1, h.2 _ H (.refl rs) (.int _)⟩
theorem opD_div : OpD X (binaryOp .FloorDiv) fDiv := by
  refine ⟨moDiv, fun pins s σ H x y v u Q Z S dx dy I rx ry rs r1 r2 h => ?_⟩
  cases r1 <;> cases r2 <;> first | exact h.elim | skip
  obtain ⟨t, rfl⟩ := rx
  obtain ⟨t', rfl⟩ := ry
  exact floordiv_int h.1.1 ⟨.int _, H, I.tok _, ⟨_, rfl⟩, h.2 _ H (.refl rs) (.int _)⟩ (.inl (PyProof.noPylong_of_log2 h.1.2))
theorem opD_mod : OpD X (binaryOp .Mod) fMod := by
  refine ⟨moMod, fun pins s σ H x y v u Q Z S dx dy I rx ry rs r1 r2 h => ?_⟩
  cases r1 <;> cases r2 <;> first | exact h.elim | skip
  exact op_modN pins s σ H _ _ v u Q I rx ry ⟨_, _, rfl, rfl, h.1, h.2 _ H (.refl rs) (.int _)⟩
theorem opD_pow : OpD X (binaryOp .Pow) fPow := by
  refine ⟨moPow, fun pins s σ H x y v u Q Z S dx dy I rx ry rs r1 r2 h => ?_⟩
  cases r1 <;> cases r2 <;> first | exact h.elim | skip
  obtain ⟨t, rfl⟩ := rx
  obtain ⟨t', rfl⟩ := ry
  exact pow_int h.1 h.2.1 ⟨.int _, H, I.tok _, ⟨_, rfl⟩, h.2.2 _ H (.refl rs) (.int _)⟩
theorem opD_shl : OpD X (binaryOp .LShift) fShl := by
  refine ⟨moShl, fun pins s σ H x y v u Q Z S dx dy I rx ry rs r1 r2 h => ?_⟩
  cases r1 <;> cases r2 <;> first | exact h.elim | skip
  exact op_shl pins s σ H _ _ v u Q I rx ry ⟨_, _, rfl, rfl, h.1, h.2 _ H (.refl rs) (.int _)⟩
theorem opD_lt : OpD X (compareOp .Lt) fLt := by
  refine ⟨moLt, fun pins s σ H x y v u Q Z S dx dy I rx ry rs r1 r2 h => ?_⟩
  cases r1 <;> cases r2 <;> first | exact h.elim | skip
  exact op_lt pins s σ H _ _ v u Q I rx ry ⟨_, _, rfl, rfl, h _ H (.refl rs) (.bl _)⟩
theorem opD_le : OpD X (compareOp .LtE) fLe := by
  refine ⟨moLe, fun pins s σ H x y v u Q Z S dx dy I rx ry rs r1 r2 h => ?_⟩
  cases r1 <;> cases r2 <;> first | exact h.elim | skip
  exact op_le pins s σ H _ _ v u Q I rx ry ⟨_, _, rfl, rfl, h _ H (.refl rs) (.bl _)⟩
theorem opD_gt : OpD X (compareOp .Gt) fGt := by
  refine ⟨moGt, fun pins s σ H x y v u Q Z S dx dy I rx ry rs r1 r2 h => ?_⟩
  cases r1 <;> cases r2 <;> first | exact h.elim | skip
  exact op_gt pins s σ H _ _ v u Q I rx ry ⟨_, _, rfl, rfl, h _ H (.refl rs) (.bl _)⟩
theorem opD_ge : OpD X (compareOp .GtE) fGe := by
  refine ⟨moGe, fun pins s σ H x y v u Q Z S dx dy I rx ry rs r1 r2 h => ?_⟩
  cases r1 <;> cases r2 <;> first | exact h.elim | skip
  exact op_ge pins s σ H _ _ v u Q I rx ry ⟨_, _, rfl, rfl, h _ H (.refl rs) (.bl _)⟩
end
end Bl

namespace Bl
open PySem PySem.Spec PyProof.Rows L2

/-! ### equality -/
mutual
def py : D → PyData
  | .non => .none
  | .bl b => .bool b
  | .int i => .int i
  | .str x => .str x
  | .tup ds => .tuple (pyL ds)
  | .lst ds => .list (pyL ds)
  | .ref _ => .none
  | .obj _ => .none
def pyL : List D → List PyData
  | [] => []
  | d :: ds => py d :: pyL ds
end
mutual
/-- no address within -/
def pl : D → Bool
  | .non => true
  | .bl _ => true
  | .int _ => true
  | .str _ => true
  | .tup ds => plL ds
  | .lst ds => plL ds
  | .ref _ => false
  | .obj _ => false
def plL : List D → Bool
  | [] => true
  | d :: ds => pl d && plL ds
end
section
variable {K : Kz} {S : Sto} {H : Hp}
mutual
theorem Rp.dp : ∀ (d : D) (v : V), pl d = true → Rp K S H d v → Dp K.K H v (py d)
  | .non, _, _, h => by cases h; exact .non
  | .bl b, _, _, h => by cases h; exact .bl b
  | .int i, _, _, h => by cases h; exact .int i
  | .str x, _, _, h => by cases h; exact .str x
  | .tup ds, _, p, h => by
    cases h with
    | tup hs ha => exact .tup hs (RpL.dp ds _ p ha)
  | .lst ds, _, p, h => by
    cases h with
    | lst hs hn hz ha => exact .lst (.inl hs) (RpL.dp ds _ p ha)
    | lstK hs ha => exact .lst (SqL.ofK hs) (RpL.dp ds _ p ha)
  | .ref _, _, p, _ => by cases p
  | .obj _, _, p, _ => by cases p
theorem RpL.dp : ∀ (ds : List D) (vs : List V), plL ds = true → RpL K S H ds vs → DpAll K.K H vs (pyL ds)
  | [], _, _, h => by cases h; exact .nil
  | d :: ds, _, p, h => by
    have p' : (pl d && plL ds) = true := p
    rw [Bool.and_eq_true] at p'
    cases h with
    | cons h1 h2 => exact .cons (Rp.dp d _ p'.1 h1) (RpL.dp ds _ p'.2 h2)
end
end
/-- data that == takes -/
def okD (d : D) : Prop := pl d = true ∧ SeqAt.shaped (py d) = true
def eqD (x y : D) : Bool := PyData.eqv (py x) (py y)
def fEq : F2 := fun x y S Q => okD x ∧ okD y ∧ Q (.bl (eqD x y)) S
def fNe : F2 := fun x y S Q => okD x ∧ okD y ∧ Q (.bl (!eqD x y)) S
theorem moEq : MoF2 fEq := fun x y S Q Q' h q => ⟨q.1, q.2.1, h _ _ q.2.2⟩
theorem moNe : MoF2 fNe := fun x y S Q Q' h q => ⟨q.1, q.2.1, h _ _ q.2.2⟩
def isN : D → Bool
  | .non => true
  | _ => false
def fIs : F2 := fun x y S Q => match y with
  | .non => Q (.bl (isN x)) S
  | _ => False
def fIsNot : F2 := fun x y S Q => match y with
  | .non => Q (.bl (!isN x)) S
  | _ => False
theorem moIs : MoF2 fIs := fun x y S Q Q' h q => by
  unfold fIs at q ⊢
  split at q <;> first | exact h _ _ q | exact q
theorem moIsNot : MoF2 fIsNot := fun x y S Q Q' h q => by
  unfold fIsNot at q ⊢
  split at q <;> first | exact h _ _ q | exact q
/-- in a list, a tuple of data; a text in a text -/
def fIn (neg : Bool) : F2 := fun x y S Q => match y with
  | .lst ds => okD x ∧ okD (.lst ds) ∧ Q (.bl (xor neg (ds.any fun z => eqD z x))) S
  | .tup ds => okD x ∧ okD (.tup ds) ∧ Q (.bl (xor neg (ds.any fun z => eqD z x))) S
  | .str j => match x with
    | .str i => Q (.bl (xor neg (!(Builtin.Str.occurrences j i 0 j.length 1).isEmpty))) S
    | _ => False
  | _ => False
theorem moIn (neg : Bool) : MoF2 (fIn neg) := fun x y S Q Q' h q => by
  unfold fIn at q ⊢
  cases y <;> first
    | exact ⟨q.1, q.2.1, h _ _ q.2.2⟩
    | (cases x <;> first | exact h _ _ q | exact q)
    | exact q
section
variable {X : Cx}
theorem opD_eq {k : Nat} (hr : Room k X.A) : OpD X (compareOp .Eq) fEq := by
  refine ⟨moEq, fun pins s σ H x y v u Q Z S dx dy I rx ry rs r1 r2 h => ?_⟩
  exact op_eqD hr.units pins s σ H _ _ v u Q I rx ry ⟨_, _, Rp.dp _ _ h.1.1 r1, Rp.dp _ _ h.2.1.1 r2, h.1.2, h.2.1.2, h.2.2 _ H (.refl rs) (.bl _)⟩
theorem opD_ne {k : Nat} (hr : Room k X.A) : OpD X (compareOp .NotEq) fNe := by
  refine ⟨moNe, fun pins s σ H x y v u Q Z S dx dy I rx ry rs r1 r2 h => ?_⟩
  exact op_neD hr.units pins s σ H _ _ v u Q I rx ry ⟨_, _, Rp.dp _ _ h.1.1 r1, Rp.dp _ _ h.2.1.1 r2, h.1.2, h.2.1.2, h.2.2 _ H (.refl rs) (.bl _)⟩
theorem isN_of {K : Kz} {S : Sto} {H : Hp} {d : D} {v : V} (r : Rp K S H d v) : decide (v = .non) = isN d := by
  cases r <;> rfl
theorem opD_isNot : OpD X (compareOp .IsNot) fIsNot := by
  refine ⟨moIsNot, fun pins s σ H x y v u Q Z S dx dy I rx ry rs r1 r2 h => ?_⟩
  cases r2 <;> first | exact h.elim | skip
  exact op_notN pins s σ H _ _ v u Q I rx ry ⟨rfl, by rw [isN_of r1]; exact h _ H (.refl rs) (.bl _)⟩
end

/-! ### -a -/
def dNeg (t : TEd) : TEd := fun env S Q E => t env S (fun d S' => match d with | .int i => Q (.int (-i)) S' | _ => False) E
theorem moNeg {t : TEd} (h : MoE t) : MoE (dNeg t) := fun env S Q Q' E E' hq he q => h _ _ _ _ _ _ (fun d S1 q1 => by
  cases d <;> first | exact hq _ _ q1 | exact q1) he q
section
variable {X : Cx} {W : WX} {a b c : Expr} {ta tb tc : TEd} {pos : Pos}
theorem je_neg (ha : JE X W a ta) : JE X W (.UnaryOp .USub a pos) (dNeg ta) := by
  refine ⟨PE.imp (pe_un un_neg ha.pe) fun σ H Q h => ?_, moNeg ha.mo⟩
  obtain ⟨Z, env, S, re, rs, q⟩ := h
  refine LE.of ha.mo re rs q (fun d S1 x H1 q1 a1 r1 => ?_) fun x S1 c dx H1 q1 a1 r1 => q1 c dx H1 a1 r1
  cases d <;> first | exact q1.elim | skip
  cases r1
  exact ⟨_, rfl, q1 _ H1 a1 (.int _)⟩
/-- a op b op c, the two answers truths -/
def dChain (ta tb tc : TEd) (f g : F2) : TEd := fun env S Q E => ta env S (fun x S1 => tb env S1 (fun y S2 => f x y S2 (fun d S3 => match d with
  | .bl true => tc env S3 (fun z S4 => g y z S4 Q) E
  | .bl false => Q (.bl false) S3
  | _ => False)) E) E
theorem moChain {f g : F2} (ha : MoE ta) (hb : MoE tb) (hc : MoE tc) (hf : MoF2 f) (hg : MoF2 g) : MoE (dChain ta tb tc f g) := fun env S Q Q' E E' h he q =>
  ha _ _ _ _ _ _ (fun x S1 q1 => hb _ _ _ _ _ _ (fun y S2 q2 => hf _ _ _ _ _ (fun d S3 q3 => by
    cases d <;> first | exact q3 | skip
    rename_i b
    cases b
    · exact h _ _ q3
    · exact hc _ _ _ _ _ _ (fun z S4 q4 => hg _ _ _ _ _ h q4) he q3) q2) he q1) he q
/-- OpD's answer, as a relation of the layer's -/
def rD (K : PySem.W.Frag) (f : F2) : R2 := fun x y H Q => ∃ Z S dx dy, RS ⟨K, Z⟩ S H ∧ Rp ⟨K, Z⟩ S H dx x ∧ Rp ⟨K, Z⟩ S H dy y ∧ f dx dy S (PQ ⟨K, Z⟩ S H Q)
theorem OpD.op {g : Value → Value → Sem Value} {f : F2} (h : OpD X g f) : OpR X g (rD X.K f) := fun pins s σ H x y v u Q I rx ry ⟨Z, S, dx, dy, rs, r1, r2, q⟩ => h.run pins s σ H x y v u Q Z S dx dy I rx ry rs r1 r2 q
theorem chainV {op op' : CmpOp} {f g : F2} (ho : OpD X (compareOp op) f) (ho' : OpD X (compareOp op') g) (ha : JE X W a ta) (hb : JE X W b tb) (hc : JE X W c tc) {σ : L2.St} {H : Hp} {Q : VK} (h : LE X.K W (dChain ta tb tc f g) σ H Q) :
    tChain (rD X.K f) (rD X.K g) (LE X.K W ta) (LE X.K W tb) (LE X.K W tc) σ H Q := by
  obtain ⟨Z, env, S, re, rs, q⟩ := h
  refine LE.of ha.mo re rs q (fun dx S1 x H1 q1 a1 r1 => ?_) fun x S1 c dx H1 q1 a1 r1 => q1 c dx H1 a1 r1
  refine LE.of hb.mo (re.step a1.st rs) a1.rs q1 (fun dy S2 y H2 q2 a2 r2 => ?_) fun x S2 c dx H2 q2 a2 r2 => q2 c dx H2 (a1.trans a2) r2
  refine ⟨Z, S2, dx, dy, a2.rs, Rp.step a2.st a1.rs _ _ r1, r2, ho.mo _ _ _ _ _ (fun d S3 q3 => ?_) q2⟩
  intro z H3 a3 r3
  have a13 := (a1.trans a2).trans a3
  cases d <;> first | exact q3.elim | skip
  rename_i t
  cases r3
  refine ⟨t, rfl, ?_⟩
  cases t with
  | false => exact iteF (q3 _ H3 a13 (.bl _))
  | true =>
    refine iteT (LE.of hc.mo (re.step a13.st rs) a3.rs q3 (fun dz S4 z H4 q4 a4 r4 => ?_) fun x S4 c dx H4 q4 a4 r4 => q4 c dx H4 (a13.trans a4) r4)
    exact ⟨Z, S4, dy, dz, a4.rs, Rp.step a4.st a3.rs _ _ (Rp.step a3.st a2.rs _ _ r2), r4, ho'.mo _ _ _ _ _ (fun d S5 q5 => PQ.after (a13.trans a4) q5) q4⟩
theorem je_chain {op op' : CmpOp} {f g : F2} (ho : OpD X (compareOp op) f) (ho' : OpD X (compareOp op') g) (ha : JE X W a ta) (hb : JE X W b tb) (hc : JE X W c tc)
    (hm : lastMarks [op, op'] [b, c] = false := by rfl) : JE X W (.Compare a [op, op'] [b, c] pos) (dChain ta tb tc f g) :=
  ⟨PE.imp (pe_chain ho.op ho'.op ha.pe hb.pe hc.pe hm) fun σ H Q h => chainV ho ho' ha hb hc h, moChain ha.mo hb.mo hc.mo ho.mo ho'.mo⟩
end

/-! ### argument lists, displays -/
def aNil : TAd := fun _ S Q _ => Q [] S
def aCons (t : TEd) (u : TAd) : TAd := fun env S Q E => t env S (fun d S1 => u env S1 (fun ds S2 => Q (d :: ds) S2) E) E
def dTup (t : TAd) : TEd := fun env S Q E => t env S (fun ds S1 => ds.length ≤ sizeLine ∧ Q (.tup ds) S1) E
def dLst (t : TAd) : TEd := fun env S Q E => t env S (fun ds S1 => ds.length ≤ sizeLine ∧ Q (.lst ds) S1) E
def dLstR (t : TAd) : TEd := fun env S Q E => t env S (fun ds S1 => ds.length ≤ sizeLine ∧ ∀ a, S1 a = none → Q (.ref a) (sup S1 a ds)) E
theorem moNilA : MoE aNil := fun env S Q Q' E E' h he q => h _ _ q
theorem moConsA {t : TEd} {u : TAd} (ht : MoE t) (hu : MoE u) : MoE (aCons t u) := fun env S Q Q' E E' h he q =>
  ht _ _ _ _ _ _ (fun d S1 q1 => hu _ _ _ _ _ _ (fun ds S2 q2 => h _ _ q2) he q1) he q
theorem moTup {t : TAd} (ht : MoE t) : MoE (dTup t) := fun env S Q Q' E E' h he q => ht _ _ _ _ _ _ (fun ds S1 q1 => ⟨q1.1, h _ _ q1.2⟩) he q
theorem moLst {t : TAd} (ht : MoE t) : MoE (dLst t) := fun env S Q Q' E E' h he q => ht _ _ _ _ _ _ (fun ds S1 q1 => ⟨q1.1, h _ _ q1.2⟩) he q
theorem moLstR {t : TAd} (ht : MoE t) : MoE (dLstR t) := fun env S Q Q' E E' h he q => ht _ _ _ _ _ _ (fun ds S1 q1 => ⟨q1.1, fun a n => h _ _ (q1.2 a n)⟩) he q
section
variable {X : Cx} {W : WX} {e : Expr} {es : List Expr} {t : TEd} {u : TAd} {pos : Pos}
theorem LA.cons {K : PySem.W.Frag} {t : TEd} {u : TAd} (ht : MoE t) (hu : MoE u) {σ : L2.St} {H : Hp} {Q : List V → Hp → Prop} (h : LA K W (aCons t u) σ H Q) : LE K W t σ H fun x H1 => LA K W u σ H1 fun xs H2 => Q (x :: xs) H2 := by
  obtain ⟨Z, env, S, re, rs, q⟩ := h
  refine LE.of ht re rs q (fun d S1 x H1 q1 a1 r1 => ?_) fun x S1 c dx H1 q1 a1 r1 => q1 c dx H1 a1 r1
  exact LA.of hu (re.step a1.st rs) a1.rs q1 (fun ds S2 vs H2 q2 a2 r2 => q2 _ H2 (a1.trans a2) (.cons (Rp.step a2.st a1.rs _ _ r1) r2)) fun x S2 c dx H2 q2 a2 r2 => q2 c dx H2 (a1.trans a2) r2
theorem ja_nil : JA X W [] aNil := ⟨PA.imp pa_nil fun σ H Q h => by
  obtain ⟨Z, env, S, re, rs, q⟩ := h
  exact q [] H (.refl rs) .nil, moNilA⟩
theorem ja_cons (ha : JE X W e t) (hr : JA X W es u) (hs : starEach (e :: es) X.env = (false, eval e X.env) :: starEach es X.env := by rfl) : JA X W (e :: es) (aCons t u) :=
  ⟨PA.imp (pa_cons ha.pe hr.pa hs) fun σ H Q h => LA.cons ha.mo hr.mo h, moConsA ha.mo hr.mo⟩
theorem je_tup {x1 : Nat} (h : JA X W es u) : JE X W (.Tuple es x1 pos) (dTup u) := by
  refine ⟨PE.imp (pe_tup h.pa) fun σ H Q q => ?_, moTup h.mo⟩
  obtain ⟨Z, env, S, re, rs, q⟩ := q
  refine LA.of h.mo re rs q (fun ds S1 vs H1 q1 a1 r1 => ⟨by rw [← r1.length]; exact q1.1, fun p hp => ?_⟩) fun x S1 c dx H1 q1 a1 r1 => q1 c dx H1 a1 r1
  obtain ⟨a2, r2⟩ := Rp.newT a1.rs hp r1
  exact q1.2 _ _ (a1.trans a2) r2
theorem je_lst (h : JA X W es u) : JE X W (.List es pos) (dLst u) := by
  refine ⟨PE.imp (pe_lst h.pa) fun σ H Q q => ?_, moLst h.mo⟩
  obtain ⟨Z, env, S, re, rs, q⟩ := q
  refine LA.of h.mo re rs q (fun ds S1 vs H1 q1 a1 r1 => ⟨by rw [← r1.length]; exact q1.1, fun p hp => ?_⟩) fun x S1 c dx H1 q1 a1 r1 => q1 c dx H1 a1 r1
  obtain ⟨a2, r2⟩ := Rp.newL a1.rs hp r1
  exact q1.2 _ _ (a1.trans a2) r2
/-- a list that is to be grown -/
theorem je_lstR (h : JA X W es u) : JE X W (.List es pos) (dLstR u) := by
  refine ⟨PE.imp (pe_lst h.pa) fun σ H Q q => ?_, moLstR h.mo⟩
  obtain ⟨Z, env, S, re, rs, q⟩ := q
  refine LA.of h.mo re rs q (fun ds S1 vs H1 q1 a1 r1 => ⟨by rw [← r1.length]; exact q1.1, fun p hp => ?_⟩) fun x S1 c dx H1 q1 a1 r1 => q1 c dx H1 a1 r1
  exact q1.2 p (a1.rs.free hp) _ _ (a1.trans (Rp.newR a1.rs hp r1)) (.ref p)
end

/-! ### subscripts -/
def fIx : F2 := fun x y S Q => match y with
  | .int i => match x with
    | .tup ds => match atI ds i with | some d => Q d S | none => False
    | .lst ds => match atI ds i with | some d => Q d S | none => False
    | .ref a => match S a with
      | some ds => match atI ds i with | some d => Q d S | none => False
      | none => False
    | .str z => z.length ≤ sizeLine ∧ match atI z.cps.toList i with | some c => Q (.str ⟨#[c]⟩) S | none => False
    | _ => False
  | _ => False
theorem moIx : MoF2 fIx := fun x y S Q Q' h q => by
  unfold fIx at q ⊢
  cases y <;> first | exact q | skip
  cases x <;> first | exact q | skip
  · dsimp only at q ⊢; refine ⟨q.1, ?_⟩; have q2 := q.2; split at q2 <;> first | exact h _ _ q2 | exact q2
  · dsimp only at q ⊢; split at q <;> first | exact h _ _ q | exact q
  · dsimp only at q ⊢; split at q <;> first | exact h _ _ q | exact q
  · dsimp only at q ⊢
    split at q
    · split at q <;> first | exact h _ _ q | exact q
    · exact q
theorem atI_rp {K : Kz} {S : Sto} {H : Hp} {ds : List D} {vs : List V} {i : Int} {d : D} (r : RpL K S H ds vs) (e : atI ds i = some d) : ∃ v, atI vs i = some v ∧ Rp K S H d v := by
  unfold atI at e ⊢
  rw [← r.length]
  cases h : ixN ds.length i with
  | none => rw [h] at e; cases e
  | some j =>
    rw [h] at e
    exact r.get e
section
variable {X : Cx} {W : WX} {a b : Expr} {ta tb : TEd} {pos : Pos}
theorem ixD : IxR X (rD X.K fIx) := by
  intro value slice pins s σ H x y v u Q I rx ry h hs
  obtain ⟨Z, S, dx, dy, rs, r1, r2, q⟩ := h
  cases r2 <;> first | (unfold fIx at q; exact q.elim) | skip
  rename_i i
  cases r1 with
  | tup hq ha =>
    unfold fIx at q; dsimp only at q
    split at q <;> first | exact q.elim | skip
    rename_i d e
    obtain ⟨z, e2, r⟩ := atI_rp ha e
    exact ix_tup value slice pins s σ H _ _ v u Q I rx ry ⟨_, _, _, z, rfl, rfl, hq, e2, q z H (.refl rs) r⟩ hs
  | lst hq hn hz ha =>
    unfold fIx at q; dsimp only at q
    split at q <;> first | exact q.elim | skip
    rename_i d e
    obtain ⟨z, e2, r⟩ := atI_rp ha e
    exact ix_list value slice pins s σ H _ _ v u Q I rx ry ⟨_, _, _, z, rfl, rfl, .inl hq, e2, q z H (.refl rs) r⟩ hs
  | lstK hq ha =>
    unfold fIx at q; dsimp only at q
    split at q <;> first | exact q.elim | skip
    rename_i d e
    obtain ⟨z, e2, r⟩ := atI_rp ha e
    exact ix_list value slice pins s σ H _ _ v u Q I rx ry ⟨_, _, _, z, rfl, rfl, SqL.ofK hq, e2, q z H (.refl rs) r⟩ hs
  | ref a =>
    unfold fIx at q; dsimp only at q
    split at q <;> first | exact q.elim | skip
    rename_i ds e0
    split at q <;> first | exact q.elim | skip
    rename_i d e
    obtain ⟨vs, hl, ha⟩ := rs.at_ a ds e0
    obtain ⟨z, e2, r⟩ := atI_rp ha e
    exact ix_list value slice pins s σ H _ _ v u Q I rx ry ⟨_, _, _, z, rfl, rfl, SqL.of hl, e2, q z H (.refl rs) r⟩ hs
  | str z =>
    unfold fIx at q; dsimp only at q
    obtain ⟨hz, q⟩ := q
    split at q <;> first | exact q.elim | skip
    rename_i c e
    exact ix_str value slice pins s σ H _ _ v u Q I rx ry ⟨z, i, c, rfl, rfl, hz, e, q _ H (.refl rs) (.str _)⟩ hs
  | _ => unfold fIx at q; exact q.elim
theorem je_ix (ha : JE X W a ta) (hb : JE X W b tb) (hs : PlainIx b := by exact fun _ _ => rfl) : JE X W (.Subscript a b pos) (dTwo ta tb fIx) :=
  ⟨PE.imp (pe_ix ixD ha.pe hb.pe hs) fun σ H Q h => two ha.mo hb.mo moIx h, moTwo ha.mo hb.mo moIx⟩
end

/-! ### slices -/
abbrev TOd := TX (Option Int)
def oNone : TOd := fun _ S Q _ => Q none S
def oSome (t : TEd) : TOd := fun env S Q E => t env S (fun d S1 => match d with | .int i => Q (some i) S1 | _ => False) E
theorem moONone : MoE oNone := fun env S Q Q' E E' h he q => h _ _ q
theorem moOSome {t : TEd} (ht : MoE t) : MoE (oSome t) := fun env S Q Q' E E' h he q => ht _ _ _ _ _ _ (fun d S1 q1 => by
  cases d <;> first | exact h _ _ q1 | exact q1) he q
def LO (K : PySem.W.Frag) (W : WX) (t : TOd) : TO := fun σ H Q => ∃ Z env S, RE ⟨K, Z⟩ S H env σ ∧ RS ⟨K, Z⟩ S H ∧ t env S (fun b S' => ∀ H', Aft ⟨K, Z⟩ S H S' H' → Q b H') (PX ⟨K, Z⟩ S H σ W)
theorem LO.of {K : Kz} {W : WX} {S : Sto} {H : Hp} {env : Ev} {σ : L2.St} {t : TOd} (mo : MoE t) (re : RE K S H env σ) (rs : RS K S H) {C : Option Int → Sto → Prop} {E : EK} {R : Option Int → Hp → Prop} (h : t env S C E)
    (hc : ∀ d S1 H1, C d S1 → Aft K S H S1 H1 → R d H1) (he : ∀ x S1 c dx H1, E x S1 → Aft K S H S1 H1 → RX K S1 H1 x c dx → W c dx σ H1) : LO K.K W t σ H R :=
  ⟨K.Z, env, S, re, rs, mo _ _ _ _ _ _ (fun d S1 q H1 a => hc d S1 H1 q a) (fun x S1 q c dx H1 a r => he x S1 c dx H1 q a r) h⟩
structure JO (X : Cx) (W : WX) (e : Option Expr) (t : TOd) : Prop where
  po : PO X e (LO X.K W t)
  mo : MoE t
def cutD (ds : List D) (lo hi : Option Int) : List D := (ds.drop (HT.sIx ds.length 0 lo)).take (HT.sIx ds.length ds.length hi - HT.sIx ds.length 0 lo)
def fSl (x : D) (lo hi : Option Int) (S : Sto) (Q : DK) : Prop := match x with
  | .tup ds => Q (.tup (cutD ds lo hi)) S
  | .lst ds => Q (.lst (cutD ds lo hi)) S
  | .ref a => match S a with
    | some ds => Q (.lst (cutD ds lo hi)) S
    | none => False
  | .str z => z.length ≤ sizeLine ∧ Q (.str (cutS z lo hi)) S
  | _ => False
theorem moFSl {x : D} {lo hi : Option Int} {S : Sto} {Q Q' : DK} (h : ∀ d S, Q d S → Q' d S) (q : fSl x lo hi S Q) : fSl x lo hi S Q' := by
  unfold fSl at q ⊢
  cases x <;> first
    | exact h _ _ q
    | exact ⟨q.1, h _ _ q.2⟩
    | (dsimp only at q ⊢; split at q <;> first | exact h _ _ q | exact q)
    | exact q
def dSl (t : TEd) (lo hi : TOd) : TEd := fun env S Q E => t env S (fun x S1 => lo env S1 (fun l S2 => hi env S2 (fun u S3 => fSl x l u S3 Q) E) E) E
theorem moSl {t : TEd} {lo hi : TOd} (ht : MoE t) (hl : MoE lo) (hh : MoE hi) : MoE (dSl t lo hi) := fun env S Q Q' E E' h he q =>
  ht _ _ _ _ _ _ (fun x S1 q1 => hl _ _ _ _ _ _ (fun l S2 q2 => hh _ _ _ _ _ _ (fun u S3 q3 => moFSl h q3) he q2) he q1) he q
theorem cut_rp {K : Kz} {S : Sto} {H : Hp} {ds : List D} {vs : List V} {lo hi : Option Int} (r : RpL K S H ds vs) : RpL K S H (cutD ds lo hi) (cutV vs lo hi) := by
  unfold cutD cutV
  rw [r.length]
  exact (r.drop _).take _
theorem cutV_all {vs : List V} {lo hi : Option Int} (h : HT.sIx vs.length 0 lo = 0 ∧ HT.sIx vs.length vs.length hi = vs.length) : cutV vs lo hi = vs := by
  unfold cutV
  rw [h.1, h.2]
  simp
section
variable {X : Cx} {W : WX} {e : Expr} {t : TEd} {lo hi : Option Expr} {tl th : TOd} {pos p2 : Pos}
theorem jo_none : JO X W none oNone := ⟨⟨fun pins s σ H Q I h => by
  obtain ⟨Z, env, S, re, rs, q⟩ := h
  exact po_none.run pins s σ H Q I (q H (.refl rs))⟩, moONone⟩
theorem jo_some (h : JE X W e t) : JO X W (some e) (oSome t) := ⟨⟨fun pins s σ H Q I h2 => by
  obtain ⟨Z, env, S, re, rs, q⟩ := h2
  refine (po_some h.pe).run pins s σ H Q I (LE.of h.mo re rs q (fun d S1 x H1 q1 a1 r1 => ?_) fun x S1 c dx H1 q1 a1 r1 => q1 c dx H1 a1 r1)
  cases d <;> first | exact q1.elim | skip
  cases r1
  exact ⟨_, rfl, q1 H1 a1⟩⟩, moOSome h.mo⟩
def rSlD (K : PySem.W.Frag) : V → Option Int → Option Int → Hp → VK → Prop := fun x lo hi H Q => ∃ Z S d, RS ⟨K, Z⟩ S H ∧ Rp ⟨K, Z⟩ S H d x ∧ fSl d lo hi S (PQ ⟨K, Z⟩ S H Q)
theorem slD : SlR X (rSlD X.K) := by
  intro pins s σ H x v vl vu lo hi sl Q I rx hs pl pu h
  obtain ⟨Z, S, d, rs, r, q⟩ := h
  cases r with
  | tup hq ha =>
    refine sl_tupA pins s σ H _ v vl vu lo hi sl Q I rx hs pl pu ⟨_, _, rfl, hq, fun e => ?_, fun _ p hp => ?_⟩
    · have z := q (.ref _) H (.refl rs) (.tup hq (by rw [← cutV_all e]; exact cut_rp ha))
      exact z
    · obtain ⟨a2, r2⟩ := Rp.newT rs hp (cut_rp (lo := lo) (hi := hi) ha)
      exact q _ _ a2 r2
  | lst hq hn hz ha => exact sl_list pins s σ H _ v vl vu lo hi sl Q I rx hs pl pu ⟨_, _, rfl, .inl hq, fun p hp => by
      obtain ⟨a2, r2⟩ := Rp.newL rs hp (cut_rp (lo := lo) (hi := hi) ha)
      exact q _ _ a2 r2⟩
  | lstK hq ha => exact sl_list pins s σ H _ v vl vu lo hi sl Q I rx hs pl pu ⟨_, _, rfl, SqL.ofK hq, fun p hp => by
      obtain ⟨a2, r2⟩ := Rp.newL rs hp (cut_rp (lo := lo) (hi := hi) ha)
      exact q _ _ a2 r2⟩
  | ref a =>
    unfold fSl at q; dsimp only at q
    split at q <;> first | exact q.elim | skip
    rename_i ds e0
    obtain ⟨vs, hl, ha⟩ := rs.at_ a ds e0
    exact sl_list pins s σ H _ v vl vu lo hi sl Q I rx hs pl pu ⟨_, _, rfl, SqL.of hl, fun p hp => by
      obtain ⟨a2, r2⟩ := Rp.newL rs hp (cut_rp (lo := lo) (hi := hi) ha)
      exact q _ _ a2 r2⟩
  | str z => exact sl_str pins s σ H _ v vl vu lo hi sl Q I rx hs pl pu ⟨_, rfl, q.1, q.2 _ H (.refl rs) (.str _)⟩
  | _ => exact q.elim
theorem je_sl (ha : JE X W e t) (hl : JO X W lo tl) (hh : JO X W hi th) : JE X W (.Subscript e (.Slice lo hi none p2) pos) (dSl t tl th) := by
  refine ⟨PE.imp (pe_slice slD ha.pe hl.po hh.po) fun σ H Q h => ?_, moSl ha.mo hl.mo hh.mo⟩
  obtain ⟨Z, env, S, re, rs, q⟩ := h
  refine LE.of ha.mo re rs q (fun d S1 x H1 q1 a1 r1 => ?_) fun x S1 c dx H1 q1 a1 r1 => q1 c dx H1 a1 r1
  refine LO.of hl.mo (re.step a1.st rs) a1.rs q1 (fun l S2 H2 q2 a2 => ?_) fun x S2 c dx H2 q2 a2 r2 => q2 c dx H2 (a1.trans a2) r2
  have a12 := a1.trans a2
  refine LO.of hh.mo (re.step a12.st rs) a2.rs q2 (fun u S3 H3 q3 a3 => ?_) fun x S3 c dx H3 q3 a3 r3 => q3 c dx H3 (a12.trans a3) r3
  exact ⟨Z, S3, d, a3.rs, Rp.step a3.st a2.rs _ _ (Rp.step a2.st a1.rs _ _ r1), moFSl (fun d S4 q4 => PQ.after (a12.trans a3) q4) q3⟩
end
end Bl

namespace Bl
open PySem PySem.Spec PyProof.Rows L2

/-! ### defs -/
/-- a def's promise, by data -/
def LSp (K : PySem.W.Frag) (n : Nat) (m : TFd) : Sp := fun vs H Q E => ∃ Z ds S, ds.length = n ∧ RpL ⟨K, Z⟩ S H ds vs ∧ RS ⟨K, Z⟩ S H ∧ m ds S (PQ ⟨K, Z⟩ S H Q) fun x S' => ∀ c dx H', Aft ⟨K, Z⟩ S H S' H' → RX ⟨K, Z⟩ S' H' x c dx → E c dx H'
/-- the def x, called by np places and the keywords ks; gD puts the values into the parameters' order -/
structure JF (P : Program) (w : World) (K : PySem.W.Frag) (mg : Str → Option Value) (base : Heap) (x : Str) (np : Nat) (ks : List Str) (gD : List D → List D → List D) (k : Nat) (m : TFd) : Prop where
  ex : ∃ (f : Addr) (fd : FuncData) (ps : List Str) (g : List Value → List Value → List Value) (gV : List V → List V → List V), mg x = some (.ref f) ∧ PySem.W.keepIn K (.ref f) = true ∧ FnOk P w K mg base (L2.CX P w) k f fd ps (LSp K ps.length m) ∧ KBn K fd ps np ks g gV ∧
    ∀ (Z : Addr → Prop) S H ds zs vs ws, RpL ⟨K, Z⟩ S H ds vs → RpL ⟨K, Z⟩ S H zs ws → ds.length = np → zs.length = ks.length → RpL ⟨K, Z⟩ S H (gD ds zs) (gV vs ws) ∧ (gD ds zs).length = ps.length
  mo : MoF m
/-- a call: the values by places, then those by keywords -/
def dCall (m : TFd) (np nk : Nat) (gD : List D → List D → List D) (ta tk : TAd) : TEd := fun env S Q E => ta env S (fun ds S1 => tk env S1 (fun zs S2 => ds.length = np ∧ zs.length = nk ∧ m (gD ds zs) S2 Q E) E) E
theorem moCall {m : TFd} {np nk : Nat} {gD : List D → List D → List D} {ta tk : TAd} (hm : MoF m) (ha : MoE ta) (hk : MoE tk) : MoE (dCall m np nk gD ta tk) := fun env S Q Q' E E' h he q =>
  ha _ _ _ _ _ _ (fun ds S1 q1 => hk _ _ _ _ _ _ (fun zs S2 q2 => ⟨q2.1, q2.2.1, hm _ _ _ _ _ _ h he q2.2.2⟩) he q1) he q
structure JK (X : Cx) (W : WX) (kws : List Keyword) (t : TAd) : Prop where
  pk : PK X kws (LA X.K W t)
  mo : MoE t
section
variable {X : Cx} {W : WX} {e : Expr} {es : List Expr} {t : TEd} {u : TAd} {pos kpos : Pos} {nm : Option Str} {kws : List Keyword}
theorem jk_nil : JK X W [] aNil := ⟨⟨fun pos pins s σ H Q I h => by
  obtain ⟨Z, env, S, re, rs, q⟩ := h
  exact pk_nil.run pos pins s σ H Q I (q [] H (.refl rs) .nil)⟩, moNilA⟩
theorem jk_cons (ha : JE X W e t) (hr : JK X W kws u) : JK X W (⟨nm, e, kpos⟩ :: kws) (aCons t u) :=
  ⟨⟨fun pos pins s σ H Q I h => (pk_cons ha.pe hr.pk).run pos pins s σ H Q I (LA.cons ha.mo hr.mo h)⟩, moConsA ha.mo hr.mo⟩
theorem run_fnG {k np : Nat} {f : Addr} {fd : FuncData} {ps ks : List Str} {sp : Sp} {E : XK} {g : List Value → List Value → List Value} {gV : List V → List V → List V} {pins : List (Addr × Obj)} {σ : L2.St} {H : Hp} {s : Shared} {Q : VK} {us ws : List Value} {vs zs : List V}
    (F : FnOk X.prog X.w X.K X.mg X.base (L2.CX X.prog X.w) k f fd ps sp) (hr : Room k X.A) (hb : KBn X.K fd ps np ks g gV) (hx : PassesAt (L2.CX X.prog X.w) X σ E)
    (I : Inv X pins σ H s) (r : Vals vs us) (rz : Vals zs ws) (l1 : vs.length = np) (l2 : zs.length = ks.length) (h : sp (gV vs zs) H Q E) : wpAny (model X.prog X.w) X.A (call (.ref f) us (ks.zip ws)) (EP X pins σ Q) X.xe s := by
  refine wpAny_call (codeAny_mono (F.run X.A X.stack s H ⟨us, ks.zip ws⟩ (g us ws) (gV vs zs) Q E hr I.env0 (hb.to s us ws I.kIn (r.length.symm.trans l1) (rz.length.symm.trans l2)) (hb.rel r rz) h) fun r s' hq => ?_)
  cases r with
  | error e => exact hx pins H s e s' I hq
  | ok fl =>
    cases fl with
    | ret u => exact I.after hq
    | next => exact False.elim hq
    | brk => exact False.elim hq
    | cont => exact False.elim hq
variable {P : Program} {w : World} {K : PySem.W.Frag} {mg : Str → Option Value} {base : Heap} {N : List Str} {sc : Scope} {vw : Vw} {k j : Nat} {x : Str} {np : Nat} {ks : List Str} {gD : List D → List D → List D} {m : TFd} {tk : TAd} {p : Pos}
/-- the callee's promise from the arguments -/
theorem call_sp {K : PySem.W.Frag} {Z : Addr → Prop} {S S2 : Sto} {H H2 : Hp} {σ : L2.St} {Q : VK} {n : Nat} {ds : List D} {vs : List V} (hm : MoF m) (a2 : Aft ⟨K, Z⟩ S H S2 H2) (r : RpL ⟨K, Z⟩ S2 H2 ds vs) (hl : ds.length = n) (h : m ds S2 (PQ ⟨K, Z⟩ S H Q) (PX ⟨K, Z⟩ S H σ W)) :
    LSp K n m vs H2 Q (WE W σ) :=
  ⟨Z, ds, S2, hl, r, a2.rs, hm _ _ _ _ _ _ (fun d S3 q => PQ.after a2 q) (fun x S3 q c dx H' a3 rx => q c dx H' (a2.trans a3) rx) h⟩
/-- f(e, .., k = v, ..) -/
theorem je_callK (c : JC P w K mg base N sc vw k X W) (F : JF P w K mg base x np ks gD j m) (hj : j ≤ k) (hx : x ∈ vw.gs) (ha : JA X W (e :: es) u) (hk : JK X W kws tk)
    (hall : (backToKw pos (keywordEach kws X.env)).all (·.1.isSome) = true := by rfl) (hks : (backToKw pos (keywordEach kws X.env)).filterMap (·.1) = ks := by rfl) (he : starEach (e :: es) X.env = (false, eval e X.env) :: starEach es X.env := by rfl)
    (hpl : ((backTo pos (starEach (e :: es) X.env)).any (·.1) || (backToKw pos (keywordEach kws X.env)).any (·.1.isNone)) = false := by rfl) :
    JE X W (.Call (.Name x p) (e :: es) kws pos) (dCall m np ks.length gD u tk) := by
  obtain ⟨rfl, rfl, rfl, rfl, rfl, rfl, rfl⟩ : X.prog = P ∧ X.w = w ∧ X.K = K ∧ X.mg = mg ∧ X.base = base ∧ X.N = N ∧ X.env.scope = sc := ⟨c.prog, c.ww, c.kk, c.gg, c.bb, c.nn, c.ss⟩
  obtain ⟨f, fd, ps, g, gV, hm, hkp, FF, hb, rel⟩ := F.ex
  refine ⟨⟨fun pins s σ H Q I h => ?_⟩, moCall F.mo ha.mo hk.mo⟩
  obtain ⟨Z, env, S, re, rs, q⟩ := h
  refine wpAny_Call_Name_kw (ld_glob I (c.gl hx) hm ?_ (c.sC.gl x hx).2.2)
  refine PySem.W.callWith_KW (h₀ := X.base) I.ok.mod.kin hkp hall (thn (ha.pa.run pos pins s σ H _ I (LA.of ha.mo re rs q (R := fun vs H1 => ∃ ds S1, Aft ⟨X.K, Z⟩ S H S1 H1 ∧ RpL ⟨X.K, Z⟩ S1 H1 ds vs ∧ tk env S1 _ _) (fun ds S1 vs H1 q1 a1 r1 => ⟨ds, S1, a1, r1, q1⟩) fun x S1 c dx H1 q1 a1 r1 => q1 c dx H1 a1 r1)) fun us s1 ⟨vs, H1, I1, r, ds, S1, a1, r1, q1⟩ => ?_) hpl he
  refine thn (hk.pk.run pos pins s1 σ H1 _ I1 (LA.of hk.mo (re.step a1.st rs) a1.rs q1 (R := fun ws H2 => ∃ zs S2, Aft ⟨X.K, Z⟩ S1 H1 S2 H2 ∧ RpL ⟨X.K, Z⟩ S2 H2 zs ws ∧ ds.length = np ∧ zs.length = ks.length ∧ m (gD ds zs) S2 _ _) (fun zs S2 ws H2 q2 a2 r2 => ⟨zs, S2, a2, r2, q2⟩) fun x S2 c dx H2 q2 a2 r2 => q2 c dx H2 (a1.trans a2) r2)) fun ws s2 ⟨zv, H2, I2, rz, zs, S2, a2, r2, l1, l2, q2⟩ => ⟨I2.kIn, ?_⟩
  rw [hks]
  have r1' := RpL.step a2.st a1.rs _ _ r1
  obtain ⟨rr, ll⟩ := rel Z S2 H2 ds zs vs zv r1' r2 l1 l2
  exact run_fnG FF (c.room.mono hj) hb (passAt c.tk σ) I2 r rz (by rw [← r1.length]; exact l1) (by rw [← r2.length]; exact l2) (call_sp F.mo (a1.trans a2) rr ll q2)
/-- f(e, ..) -/
theorem je_call (c : JC P w K mg base N sc vw k X W) (F : JF P w K mg base x np [] gD j m) (hj : j ≤ k) (hx : x ∈ vw.gs) (ha : JA X W (e :: es) u) (he : starEach (e :: es) X.env = (false, eval e X.env) :: starEach es X.env := by rfl)
    (hpl : (backTo pos (starEach es X.env)).any (·.1) = false := by rfl) : JE X W (.Call (.Name x p) (e :: es) [] pos) (dCall m np 0 gD u aNil) := by
  obtain ⟨rfl, rfl, rfl, rfl, rfl, rfl, rfl⟩ : X.prog = P ∧ X.w = w ∧ X.K = K ∧ X.mg = mg ∧ X.base = base ∧ X.N = N ∧ X.env.scope = sc := ⟨c.prog, c.ww, c.kk, c.gg, c.bb, c.nn, c.ss⟩
  obtain ⟨f, fd, ps, g, gV, hm, hkp, FF, hb, rel⟩ := F.ex
  refine ⟨⟨fun pins s σ H Q I h => ?_⟩, moCall F.mo ha.mo moNilA⟩
  obtain ⟨Z, env, S, re, rs, q⟩ := h
  refine wpAny_Call_Name_kw (ld_glob I (c.gl hx) hm ?_ (c.sC.gl x hx).2.2)
  refine PySem.W.callWith_K (h₀ := X.base) I.ok.mod.kin hkp (thn (ha.pa.run pos pins s σ H _ I (LA.of ha.mo re rs q (R := fun vs H1 => ∃ ds S1, Aft ⟨X.K, Z⟩ S H S1 H1 ∧ RpL ⟨X.K, Z⟩ S1 H1 ds vs ∧ ds.length = np ∧ ([] : List D).length = 0 ∧ m (gD ds []) S1 _ _) (fun ds S1 vs H1 q1 a1 r1 => ⟨ds, S1, a1, r1, q1⟩) fun x S1 c dx H1 q1 a1 r1 => q1 c dx H1 a1 r1)) fun us s1 ⟨vs, H1, I1, r, ds, S1, a1, r1, l1, l2, q1⟩ => ⟨I1.kIn, ?_⟩) he hpl
  obtain ⟨rr, ll⟩ := rel Z S1 H1 ds [] vs [] r1 .nil l1 rfl
  exact run_fnG (ws := []) (zs := []) FF (c.room.mono hj) hb (passAt c.tk σ) I1 r .nil (by rw [← r1.length]; exact l1) rfl (call_sp F.mo a1 rr ll q1)
end

/-! ### what is built in -/
abbrev GB := List D → Sto → DK → Prop
def rC (K : PySem.W.Frag) (g : GB) : List V → Hp → VK → Prop := fun vs H Q => ∃ Z S ds, RS ⟨K, Z⟩ S H ∧ RpL ⟨K, Z⟩ S H ds vs ∧ g ds S (PQ ⟨K, Z⟩ S H Q)
structure CallD (X : Cx) (f : Value) (g : GB) : Prop where
  mo : ∀ ds S (Q Q' : DK), (∀ d S, Q d S → Q' d S) → g ds S Q → g ds S Q'
  run : CallR X f (rC X.K g)
def dB (g : GB) (ta : TAd) : TEd := fun env S Q E => ta env S (fun ds S1 => g ds S1 Q) E
section
variable {X : Cx} {W : WX} {e : Expr} {es : List Expr} {t : TEd} {u : TAd} {pos p : Pos} {x : Str} {g : GB} {id T : String}
variable {P : Program} {w : World} {K : PySem.W.Frag} {mg : Str → Option Value} {base : Heap} {N : List Str} {sc : Scope} {vw : Vw} {k : Nat}
theorem dB_imp {K : PySem.W.Frag} {g : GB} (hg : ∀ ds S (Q Q' : DK), (∀ d S, Q d S → Q' d S) → g ds S Q → g ds S Q') (hu : MoE u) {σ : L2.St} {H : Hp} {Q : VK} (h : LE K W (dB g u) σ H Q) : tCB (rC K g) (LA K W u) σ H Q := by
  obtain ⟨Z, env, S, re, rs, q⟩ := h
  refine LA.of hu re rs q (fun ds S1 vs H1 q1 a1 r1 => ?_) fun x S1 c dx H1 q1 a1 r1 => q1 c dx H1 a1 r1
  exact ⟨Z, S1, ds, a1.rs, r1, hg _ _ _ _ (fun d S2 q2 => PQ.after a1 q2) q1⟩
theorem moB {g : GB} (hg : ∀ ds S (Q Q' : DK), (∀ d S, Q d S → Q' d S) → g ds S Q → g ds S Q') (hu : MoE u) : MoE (dB g u) := fun env S Q Q' E E' h he q => hu _ _ _ _ _ _ (fun ds S1 q1 => hg _ _ _ _ h q1) he q
theorem je_callB (c : JC P w K mg base N sc vw k X W) (hc : CallD X (.builtin id) g) (hx : x ∈ vw.gs) (hm : mg x = none) (hv : bootBuiltins x = some (.builtin id)) (ha : JA X W (e :: es) u) (he : starEach (e :: es) X.env = (false, eval e X.env) :: starEach es X.env := by rfl)
    (hpl : (backTo pos (starEach es X.env)).any (·.1) = false := by rfl) : JE X W (.Call (.Name x p) (e :: es) [] pos) (dB g u) :=
  ⟨PE.imp (pe_callB hc.run (c.gl hx) (by rw [c.gg]; exact hm) hv ha.pa (c.sC.gl x hx).2.1 (c.sC.gl x hx).2.2 he hpl) fun σ H Q h => dB_imp hc.mo ha.mo h, moB hc.mo ha.mo⟩
theorem je_callTy (c : JC P w K mg base N sc vw k X W) (hc : CallD X (.type T) g) (hx : x ∈ vw.gs) (hm : mg x = none) (hv : bootBuiltins x = some (.type T)) (ha : JA X W (e :: es) u) (he : starEach (e :: es) X.env = (false, eval e X.env) :: starEach es X.env := by rfl)
    (hpl : (backTo pos (starEach es X.env)).any (·.1) = false := by rfl) : JE X W (.Call (.Name x p) (e :: es) [] pos) (dB g u) :=
  ⟨PE.imp (pe_callTy hc.run (c.gl hx) (by rw [c.gg]; exact hm) hv ha.pa (c.sC.gl x hx).2.1 (c.sC.gl x hx).2.2 he hpl) fun σ H Q h => dB_imp hc.mo ha.mo h, moB hc.mo ha.mo⟩
end
def bAbs : GB := fun ds S Q => match ds with
  | [.int i] => Q (.int (if i < 0 then -i else i)) S
  | _ => False
def bLen : GB := fun ds S Q => match ds with
  | [.tup xs] => Q (.int xs.length) S
  | [.lst xs] => Q (.int xs.length) S
  | [.ref a] => match S a with | some xs => Q (.int xs.length) S | none => False
  | [.str x] => x.length ≤ sizeLine ∧ Q (.int x.length) S
  | _ => False
def bMax : GB := fun ds S Q => match ds with
  | [.int i, .int j] => Q (.int (if j > i then j else i)) S
  | _ => False
def bMin : GB := fun ds S Q => match ds with
  | [.int i, .int j] => Q (.int (if j < i then j else i)) S
  | _ => False
def bInt : GB := fun ds S Q => match ds with
  | [.int i] => Q (.int i) S
  | [.bl b] => Q (.int (if b then 1 else 0)) S
  | _ => False
def bTup : GB := fun ds S Q => match ds with
  | [.tup xs] => Q (.tup xs) S
  | [.lst xs] => Q (.tup xs) S
  | [.ref a] => match S a with | some xs => Q (.tup xs) S | none => False
  | _ => False
def bLst : GB := fun ds S Q => match ds with
  | [.tup xs] => Q (.lst xs) S
  | [.lst xs] => Q (.lst xs) S
  | [.ref a] => match S a with | some xs => Q (.lst xs) S | none => False
  | _ => False
def blsOf : List D → Option (List Bool)
  | [] => some []
  | .bl b :: ds => (blsOf ds).map (b :: ·)
  | _ => none
def bAll : GB := fun ds S Q => match ds with
  | [.lst xs] => match blsOf xs with | some bs => Q (.bl (bs.all id)) S | none => False
  | _ => False
section
variable {X : Cx}
theorem RpL.one {K : Kz} {S : Sto} {H : Hp} {d : D} {vs : List V} (h : RpL K S H [d] vs) : ∃ v, vs = [v] ∧ Rp K S H d v := by
  cases h with
  | cons a b => cases b; exact ⟨_, rfl, a⟩
theorem RpL.two {K : Kz} {S : Sto} {H : Hp} {d e : D} {vs : List V} (h : RpL K S H [d, e] vs) : ∃ v w, vs = [v, w] ∧ Rp K S H d v ∧ Rp K S H e w := by
  cases h with
  | cons a b =>
    cases b with
    | cons b c => cases c; exact ⟨_, _, rfl, a, b⟩
/-- a datum that is a list -/
theorem Rp.sqL {K : Kz} {S : Sto} {H : Hp} {xs : List D} {v : V} (h : Rp K S H (.lst xs) v) : ∃ a vs, v = .ref a ∧ SqL K.K H a vs ∧ RpL K S H xs vs := by
  cases h with
  | lst h1 h2 h3 h4 => exact ⟨_, _, rfl, .inl h1, h4⟩
  | lstK h1 h2 => exact ⟨_, _, rfl, SqL.ofK h1, h2⟩
theorem Rp.sqT {K : Kz} {S : Sto} {H : Hp} {xs : List D} {v : V} (h : Rp K S H (.tup xs) v) : ∃ a vs, v = .ref a ∧ SqT K.K H a vs ∧ RpL K S H xs vs := by
  cases h with
  | tup h1 h2 => exact ⟨_, _, rfl, h1, h2⟩
theorem Rp.sqR {K : Kz} {S : Sto} {H : Hp} {a : Addr} {xs : List D} (rs : RS K S H) (e : S a = some xs) : ∃ vs, SqL K.K H a vs ∧ RpL K S H xs vs := by
  obtain ⟨vs, h1, h2⟩ := rs.at_ a xs e
  exact ⟨vs, SqL.of h1, h2⟩
theorem cd_abs : CallD X (.builtin "abs") bAbs := by
  refine ⟨by (intro ds S Q Q' h q; unfold bAbs at q ⊢; split at q <;> first | exact h _ _ q | exact ⟨q.1, h _ _ q.2⟩ | exact q.elim | ((try dsimp only at q ⊢); split at q <;> first | exact h _ _ q | exact q.elim)), fun pins s σ H xs us Q I rv h => ?_⟩
  obtain ⟨Z, S, ds, rs, r, q⟩ := h
  unfold bAbs at q
  split at q <;> first | exact q.elim | skip
  obtain ⟨v, rfl, r1⟩ := r.one
  cases r1
  exact call_abs pins s σ H _ us Q I rv ⟨_, rfl, q _ H (.refl rs) (.int _)⟩
theorem cd_max (hc : X.calm = true) : CallD X (.builtin "max") bMax := by
  refine ⟨by (intro ds S Q Q' h q; unfold bMax at q ⊢; split at q <;> first | exact h _ _ q | exact ⟨q.1, h _ _ q.2⟩ | exact q.elim | ((try dsimp only at q ⊢); split at q <;> first | exact h _ _ q | exact q.elim)), fun pins s σ H xs us Q I rv h => ?_⟩
  obtain ⟨Z, S, ds, rs, r, q⟩ := h
  unfold bMax at q
  split at q <;> first | exact q.elim | skip
  obtain ⟨v, v2, rfl, r1, r2⟩ := r.two
  cases r1
  cases r2
  exact call_max2 hc pins s σ H _ us Q I rv ⟨_, _, rfl, q _ H (.refl rs) (.int _)⟩
theorem cd_min (hc : X.calm = true) : CallD X (.builtin "min") bMin := by
  refine ⟨by (intro ds S Q Q' h q; unfold bMin at q ⊢; split at q <;> first | exact h _ _ q | exact ⟨q.1, h _ _ q.2⟩ | exact q.elim | ((try dsimp only at q ⊢); split at q <;> first | exact h _ _ q | exact q.elim)), fun pins s σ H xs us Q I rv h => ?_⟩
  obtain ⟨Z, S, ds, rs, r, q⟩ := h
  unfold bMin at q
  split at q <;> first | exact q.elim | skip
  obtain ⟨v, v2, rfl, r1, r2⟩ := r.two
  cases r1
  cases r2
  exact call_min2 hc pins s σ H _ us Q I rv ⟨_, _, rfl, q _ H (.refl rs) (.int _)⟩
theorem cd_int : CallD X (.type "int") bInt := by
  refine ⟨by (intro ds S Q Q' h q; unfold bInt at q ⊢; split at q <;> first | exact h _ _ q | exact ⟨q.1, h _ _ q.2⟩ | exact q.elim | ((try dsimp only at q ⊢); split at q <;> first | exact h _ _ q | exact q.elim)), fun pins s σ H xs us Q I rv h => ?_⟩
  obtain ⟨Z, S, ds, rs, r, q⟩ := h
  unfold bInt at q
  split at q <;> first | exact q.elim | skip
  · obtain ⟨v, rfl, r1⟩ := r.one
    cases r1
    exact call_int1 pins s σ H _ us Q I rv (.inl ⟨_, rfl, q _ H (.refl rs) (.int _)⟩)
  · obtain ⟨v, rfl, r1⟩ := r.one
    cases r1
    exact call_int1 pins s σ H _ us Q I rv (.inr ⟨_, rfl, q _ H (.refl rs) (.int _)⟩)
theorem cd_len : CallD X (.builtin "len") bLen := by
  refine ⟨by (intro ds S Q Q' h q; unfold bLen at q ⊢; split at q <;> first | exact h _ _ q | exact ⟨q.1, h _ _ q.2⟩ | exact q.elim | ((try dsimp only at q ⊢); split at q <;> first | exact h _ _ q | exact q.elim)), fun pins s σ H xs us Q I rv h => ?_⟩
  obtain ⟨Z, S, ds, rs, r, q⟩ := h
  unfold bLen at q
  split at q <;> first | exact q.elim | skip
  · obtain ⟨v, rfl, r1⟩ := r.one
    obtain ⟨a, vs, rfl, hs, hl⟩ := r1.sqT
    exact call_len_seq pins s σ H _ us Q I rv ⟨a, vs, rfl, .inr hs, by rw [← hl.length]; exact q _ H (.refl rs) (.int _)⟩
  · obtain ⟨v, rfl, r1⟩ := r.one
    obtain ⟨a, vs, rfl, hs, hl⟩ := r1.sqL
    exact call_len_seq pins s σ H _ us Q I rv ⟨a, vs, rfl, .inl hs, by rw [← hl.length]; exact q _ H (.refl rs) (.int _)⟩
  · obtain ⟨v, rfl, r1⟩ := r.one
    cases r1
    try dsimp only at q
    split at q <;> first | exact q.elim | skip
    rename_i e
    obtain ⟨vs, hs, hl⟩ := Rp.sqR rs e
    exact call_len_seq pins s σ H _ us Q I rv ⟨_, vs, rfl, .inl hs, by rw [← hl.length]; exact q _ H (.refl rs) (.int _)⟩
  · obtain ⟨v, rfl, r1⟩ := r.one
    cases r1
    exact call_len_str pins s σ H _ us Q I rv ⟨_, rfl, q.1, q.2 _ H (.refl rs) (.int _)⟩
theorem cd_tup : CallD X (.type "tuple") bTup := by
  refine ⟨by (intro ds S Q Q' h q; unfold bTup at q ⊢; split at q <;> first | exact h _ _ q | exact ⟨q.1, h _ _ q.2⟩ | exact q.elim | ((try dsimp only at q ⊢); split at q <;> first | exact h _ _ q | exact q.elim)), fun pins s σ H xs us Q I rv h => ?_⟩
  obtain ⟨Z, S, ds, rs, r, q⟩ := h
  unfold bTup at q
  split at q <;> first | exact q.elim | skip
  · obtain ⟨v, rfl, r1⟩ := r.one
    obtain ⟨a, vs, rfl, hs, hl⟩ := r1.sqT
    exact call_tuple_of pins s σ H _ us Q I rv ⟨a, vs, rfl, .inr ⟨hs, q _ H (.refl rs) r1⟩⟩
  · obtain ⟨v, rfl, r1⟩ := r.one
    obtain ⟨a, vs, rfl, hs, hl⟩ := r1.sqL
    exact call_tuple_of pins s σ H _ us Q I rv ⟨a, vs, rfl, .inl ⟨hs, fun l hn => by
      obtain ⟨a2, r2⟩ := Rp.newT rs hn hl
      exact q _ _ a2 r2⟩⟩
  · obtain ⟨v, rfl, r1⟩ := r.one
    cases r1
    try dsimp only at q
    split at q <;> first | exact q.elim | skip
    rename_i e
    obtain ⟨vs, hs, hl⟩ := Rp.sqR rs e
    exact call_tuple_of pins s σ H _ us Q I rv ⟨_, vs, rfl, .inl ⟨hs, fun l hn => by
      obtain ⟨a2, r2⟩ := Rp.newT rs hn hl
      exact q _ _ a2 r2⟩⟩
theorem cd_lst : CallD X (.type "list") bLst := by
  refine ⟨by (intro ds S Q Q' h q; unfold bLst at q ⊢; split at q <;> first | exact h _ _ q | exact ⟨q.1, h _ _ q.2⟩ | exact q.elim | ((try dsimp only at q ⊢); split at q <;> first | exact h _ _ q | exact q.elim)), fun pins s σ H xs us Q I rv h => ?_⟩
  obtain ⟨Z, S, ds, rs, r, q⟩ := h
  unfold bLst at q
  split at q <;> first | exact q.elim | skip
  · obtain ⟨v, rfl, r1⟩ := r.one
    obtain ⟨a, vs, rfl, hs, hl⟩ := r1.sqT
    exact call_list_of pins s σ H _ us Q I rv ⟨a, vs, rfl, .inr hs, fun l hn => by
      obtain ⟨a2, r2⟩ := Rp.newL rs hn hl
      exact q _ _ a2 r2⟩
  · obtain ⟨v, rfl, r1⟩ := r.one
    obtain ⟨a, vs, rfl, hs, hl⟩ := r1.sqL
    exact call_list_of pins s σ H _ us Q I rv ⟨a, vs, rfl, .inl hs, fun l hn => by
      obtain ⟨a2, r2⟩ := Rp.newL rs hn hl
      exact q _ _ a2 r2⟩
  · obtain ⟨v, rfl, r1⟩ := r.one
    cases r1
    try dsimp only at q
    split at q <;> first | exact q.elim | skip
    rename_i e
    obtain ⟨vs, hs, hl⟩ := Rp.sqR rs e
    exact call_list_of pins s σ H _ us Q I rv ⟨_, vs, rfl, .inl hs, fun l hn => by
      obtain ⟨a2, r2⟩ := Rp.newL rs hn hl
      exact q _ _ a2 r2⟩
end

/-! ### isinstance, a built-in class -/
def tyN : D → Option String
  | .non => some "NoneType"
  | .bl _ => some "bool"
  | .int _ => some "int"
  | .str _ => some "str"
  | .tup _ => some "tuple"
  | .lst _ => some "list"
  | _ => none
def isiD (T : String) (d : D) : Option Bool := (tyN d).bind fun a => kitB a T
def dIsi (T : String) (t : TEd) : TEd := fun env S Q E => t env S (fun d S1 => match isiD T d with | some b => Q (.bl b) S1 | none => False) E
theorem moIsi {T : String} {t : TEd} (h : MoE t) : MoE (dIsi T t) := fun env S Q Q' E E' hq he q => h _ _ _ _ _ _ (fun d S1 q1 => by
  split at q1
  · exact hq _ _ q1
  · exact q1.elim) he q
section
variable {X : Cx} {W : WX} {e : Expr} {t : TEd} {pos p q : Pos} {x y : Str} {T : String}
variable {P : Program} {w : World} {K : PySem.W.Frag} {mg : Str → Option Value} {base : Heap} {N : List Str} {sc : Scope} {vw : Vw} {k : Nat}
end
end Bl

namespace Bl
open PySem PySem.Spec PyProof.Rows L2

/-! ### targets -/
inductive Tg where
  | nm (i : Nat)
  | tp (ts : List Tg)
def itemsOf (S : Sto) : D → Option (List D)
  | .tup ds => some ds
  | .lst ds => some ds
  | .ref a => S a
  | _ => none
mutual
def asgT (S : Sto) : Tg → D → Ev → Option Ev
  | .nm i, d, env => some (env.set i (some d))
  | .tp ts, d, env => match itemsOf S d with
    | some ds => asgL S ts ds env
    | none => none
def asgL (S : Sto) : List Tg → List D → Ev → Option Ev
  | [], [], env => some env
  | t :: ts, d :: ds, env => match asgT S t d env with
    | some env1 => asgL S ts ds env1
    | none => none
  | _, _, _ => none
end
mutual
def tgS : Tg → List Nat
  | .nm i => [i]
  | .tp ts => tgsS ts
def tgsS : List Tg → List Nat
  | [] => []
  | t :: ts => tgS t ++ tgsS ts
end
theorem asgL_len {S : Sto} : ∀ {ts : List Tg} {ds : List D} {env env' : Ev}, asgL S ts ds env = some env' → ds.length = ts.length
  | [], [], _, _, _ => rfl
  | [], _ :: _, _, _, h => by unfold asgL at h; cases h
  | _ :: _, [], _, _, h => by unfold asgL at h; cases h
  | t :: ts, d :: ds, env, env', h => by
    unfold asgL at h
    split at h
    · exact congrArg Nat.succ (asgL_len h)
    · cases h
theorem wipe_in {σ : L2.St} {i : Nat} {x : Option V} : ∀ {vs : List Nat}, i ∈ vs → wipe (σ.set i x) vs = wipe σ vs
  | v :: vs, h => by
    unfold wipe
    by_cases hv : i ∈ vs
    · rw [wipe_in hv]
    · have e : v = i := by
        rcases List.mem_cons.mp h with e | e
        · exact e.symm
        · exact absurd e hv
      subst e
      have : ∀ ws : List Nat, v ∉ ws → wipe (σ.set v x) ws = (wipe σ ws).set v x := by
        intro ws
        induction ws with
        | nil => intro _; rfl
        | cons u us ih =>
          intro hn
          have h1 : v ≠ u := fun z => hn (by simp [z])
          have h2 : v ∉ us := fun z => hn (by simp [z])
          unfold wipe
          rw [ih h2, List.set_comm _ _ h1]
      rw [this vs hv, List.set_set]
def LG (K : PySem.W.Frag) (g : Tg) : TG := fun v σ H Q => ∃ Z env S d env', RE ⟨K, Z⟩ S H env σ ∧ RS ⟨K, Z⟩ S H ∧ Rp ⟨K, Z⟩ S H d v ∧ asgT S g d env = some env' ∧
  ∀ σ', RE ⟨K, Z⟩ S H env' σ' → (∀ vs : List Nat, (∀ i ∈ tgS g, i ∈ vs) → wipe σ' vs = wipe σ vs) → Q σ' H
def LGs (K : PySem.W.Frag) (gs : List Tg) : TGs := fun us σ H Q => ∃ Z env S ds env', RE ⟨K, Z⟩ S H env σ ∧ RS ⟨K, Z⟩ S H ∧ RpL ⟨K, Z⟩ S H ds us ∧ asgL S gs ds env = some env' ∧
  ∀ σ', RE ⟨K, Z⟩ S H env' σ' → (∀ vs : List Nat, (∀ i ∈ tgsS gs, i ∈ vs) → wipe σ' vs = wipe σ vs) → Q σ' H
structure JG (X : Cx) (tg : Expr) (g : Tg) : Prop where
  pg : PG X tg (LG X.K g)
structure JGs (X : Cx) (tgs : List Expr) (gs : List Tg) : Prop where
  pg : PGs X tgs (LGs X.K gs)
section
variable {P : Program} {w : World} {K : PySem.W.Frag} {mg : Str → Option Value} {base : Heap} {N : List Str} {sc : Scope} {vw : Vw} {k : Nat} {X : Cx} {W : WX}
theorem JC.loc (c : JC P w K mg base N sc vw k X W) {x : Str} (h : sc.names.lookup x = some .local ∨ sc.names.lookup x = some .cell ∧ ∀ y, X.fn y = true) : Loc X.env.scope x ∧ (X.fn x = true ∨ X.env.scope.names.lookup x = some .local) := by
  rw [c.ss]
  rcases h with h | h
  · exact ⟨.inl h, .inr h⟩
  · exact ⟨.inr h.1, .inl (h.2 x)⟩
theorem jg_name (c : JC P w K mg base N sc vw k X W) (i : Nat) {x : Str} {pos : Pos} (hi : N[i]? = some x) (hx : sc.names.lookup x = some .local ∨ sc.names.lookup x = some .cell ∧ ∀ y, X.fn y = true) : JG X (.Name x pos) (.nm i) := by
  obtain ⟨l1, l2⟩ := c.loc hx
  refine ⟨⟨fun pins s σ H v u Q I r h => ?_⟩⟩
  obtain ⟨Z, env, S, d, env', re, rs, rp, e, q⟩ := h
  refine (pg_name (i := i) (by rw [c.nn]; exact c.nd) (by rw [c.nn]; exact hi) l1 l2).run pins s σ H v u Q I r (q _ ?_ fun vs hv => wipe_in (hv i (by simp [tgS])))
  unfold asgT at e
  cases e
  exact re.set rp i
theorem jgs_nil : JGs X [] [] := by
  refine ⟨⟨fun pins s σ H v u Q I r h => ?_⟩⟩
  obtain ⟨Z, env, S, ds, env', re, rs, rp, e, q⟩ := h
  cases ds with
  | cons d ds => unfold asgL at e; cases e
  | nil =>
    cases rp
    unfold asgL at e
    cases e
    exact pgs_nil.run pins s σ H [] u Q I r ⟨rfl, q σ re fun _ _ => rfl⟩
theorem jgs_cons {e : Expr} {es : List Expr} {g : Tg} {gt : List Tg} (h1 : JG X e g) (h2 : JGs X es gt) (hs : (assignEach (e :: es) X.env).map (·.2) = assign e X.env :: (assignEach es X.env).map (·.2) := by rfl) : JGs X (e :: es) (g :: gt) := by
  refine ⟨⟨fun pins s σ H v u Q I r h => ?_⟩⟩
  obtain ⟨Z, env, S, ds, env', re, rs, rp, e0, q⟩ := h
  cases ds with
  | nil => unfold asgL at e0; cases e0
  | cons d ds =>
    cases rp with
    | cons rp1 rp2 =>
      unfold asgL at e0
      split at e0 <;> first | cases e0; done | skip
      rename_i env1 e1
      refine (pgs_cons h1.pg h2.pg hs).run pins s σ H _ u Q I r ⟨_, _, rfl, Z, env, S, d, env1, re, rs, rp1, e1, fun σ1 re1 w1 => ?_⟩
      exact ⟨Z, env1, S, ds, env', re1, rs, rp2, e0, fun σ2 re2 w2 => q σ2 re2 fun vs hv => by
        rw [w2 vs fun i hi => hv i (by unfold tgsS; exact List.mem_append_right _ hi), w1 vs fun i hi => hv i (by unfold tgsS; exact List.mem_append_left _ hi)]⟩
theorem jg_tup {es : List Expr} {n : Nat} {gt : List Tg} {pos : Pos} (hc : X.calm = true) (h : JGs X es gt) (hn : (assignEach es X.env).length = gt.length := by rfl) (hst : (assignEach es X.env).findIdx? (·.1) = none := by rfl) : JG X (.Tuple es n pos) (.tp gt) := by
  refine ⟨⟨fun pins s σ H v u Q I r h2 => ?_⟩⟩
  obtain ⟨Z, env, S, d, env', re, rs, rp, e, q⟩ := h2
  unfold asgT at e
  split at e <;> first | cases e; done | skip
  rename_i ds e1
  have ln := asgL_len e
  have fin : ∀ vs, RpL ⟨X.K, Z⟩ S H ds vs → LGs X.K gt vs σ H Q := fun vs rl => ⟨Z, env, S, ds, env', re, rs, rl, e, fun σ' r' w' => q σ' r' fun vs hv => w' vs fun i hi => hv i (by unfold tgS; exact hi)⟩
  cases rp with
  | tup h1 h2 =>
    unfold itemsOf at e1
    cases e1
    exact (pg_tup hc h.pg hn hst).run pins s σ H _ u Q I r ⟨_, _, rfl, h1, by rw [← h2.length]; exact ln, fin _ h2⟩
  | lst h1 _ _ h2 =>
    unfold itemsOf at e1
    cases e1
    exact (pg_lst hc h.pg hn hst).run pins s σ H _ u Q I r ⟨_, _, rfl, .inl h1, by rw [← h2.length]; exact ln, fin _ h2⟩
  | lstK h1 h2 =>
    unfold itemsOf at e1
    cases e1
    exact (pg_lst hc h.pg hn hst).run pins s σ H _ u Q I r ⟨_, _, rfl, SqL.ofK h1, by rw [← h2.length]; exact ln, fin _ h2⟩
  | ref a =>
    unfold itemsOf at e1
    obtain ⟨vs, h1, h2⟩ := rs.at_ a ds e1
    exact (pg_lst hc h.pg hn hst).run pins s σ H _ u Q I r ⟨_, _, rfl, SqL.of h1, by rw [← h2.length]; exact ln, fin _ h2⟩
  | _ => unfold itemsOf at e1; cases e1
end

/-! ### blocks -/
def sNx : TSd := fun env S N => N.nx env S
def sSeq (t u : TSd) : TSd := fun env S N => t env S { N with nx := fun e S1 => u e S1 N }
def sRet (t : TEd) : TSd := fun env S N => t env S N.rt fun x S1 => N.ex x env S1
def sRetN : TSd := fun _ S N => N.rt .non S
def sDrop (t : TEd) : TSd := fun env S N => t env S (fun _ S1 => N.nx env S1) fun x S1 => N.ex x env S1
def sIf (c : TTd) (t u : TSd) : TSd := fun env S N => c env S (fun b S1 => if b = true then t env S1 N else u env S1 N) fun x S1 => N.ex x env S1
def sBrk : TSd := fun env S N => N.bk env S
def sCnt : TSd := fun env S N => N.ct env S
def sAsg (t : TEd) (g : Tg) : TSd := fun env S N => t env S (fun d S1 => match asgT S1 g d env with
  | some e => N.nx e S1
  | none => False) fun x S1 => N.ex x env S1
/-- a, b = x, y with plain local names -/
def sPar (is : List Nat) (t : TAd) : TSd := fun env S N => t env S (fun ds S1 => match asgL S1 (is.map .nm) ds env with
  | some e => N.nx e S1
  | none => False) fun x S1 => N.ex x env S1
def sAug (i : Nat) (t : TEd) (f : F2) : TSd := fun env S N => match env[i]? with
  | some (some x) => t env S (fun y S1 => f x y S1 fun z S2 => N.nx (env.set i (some z)) S2) fun x S1 => N.ex x env S1
  | _ => False
def setD (o i v : D) (S : Sto) (Q : Sto → Prop) : Prop := match o, i with
  | .ref a, .int k => match S a with
    | some ds => match ixN ds.length k with
      | some j => Q (sup S a (ds.set j v))
      | none => False
    | none => False
  | _, _ => False
def sSub (te to ti : TEd) : TSd := fun env S N => te env S (fun v S1 => to env S1 (fun o S2 => ti env S2 (fun i S3 => setD o i v S3 fun S4 => N.nx env S4) fun x S3 => N.ex x env S3) fun x S2 => N.ex x env S2) fun x S1 => N.ex x env S1
/-- a list is grown no more -/
def sFrz (i : Nat) (t : TSd) : TSd := fun env S N => match env[i]? with
  | some (some (.ref a)) => match S a with
    | some ds => t (env.set i (some (.lst ds))) (sdel S a) N
    | none => False
  | _ => False
def sWhile (c : TTd) (b : TSd) : TSd := fun env S N => ∃ Wi : Nat → Ev → Sto → Prop, (∃ m, Wi m env S) ∧ ∀ m env S, Wi m env S → c env S (fun k S1 => if k = true then b env S1 { N with nx := fun e s => ∃ m', m' < m ∧ Wi m' e s, ct := fun e s => ∃ m', m' < m ∧ Wi m' e s, bk := N.nx } else N.nx env S1) fun x S1 => N.ex x env S1
def forD (g : Tg) (b : TSd) : List D → Ev → Sto → Nd → Prop
  | [], env, S, N => N.nx env S
  | d :: ds, env, S, N => match asgT S g d env with
    | some e1 => b e1 S { N with nx := fun e s => forD g b ds e s N, ct := fun e s => forD g b ds e s N, bk := N.nx }
    | none => False
def sFor (ti : TAd) (g : Tg) (b : TSd) : TSd := fun env S N => ti env S (fun ds S1 => forD g b ds env S1 N) fun x S1 => N.ex x env S1

theorem NdLe.refl (A : Nd) : NdLe A A := ⟨fun _ _ h => h, fun _ _ h => h, fun _ _ h => h, fun _ _ h => h, fun _ _ _ h => h⟩
theorem moNx : MoS sNx := fun env S A B l h => l.nx _ _ h
theorem moSeq {t u : TSd} (ht : MoS t) (hu : MoS u) : MoS (sSeq t u) := fun env S A B l h => ht env S { A with nx := fun e S1 => u e S1 A } { B with nx := fun e S1 => u e S1 B } ⟨fun e S1 q => hu _ _ _ _ l q, l.rt, l.bk, l.ct, l.ex⟩ h
theorem moRet {t : TEd} (ht : MoE t) : MoS (sRet t) := fun env S A B l h => ht _ _ _ _ _ _ l.rt (fun x S1 q => l.ex _ _ _ q) h
theorem moDrop {t : TEd} (ht : MoE t) : MoS (sDrop t) := fun env S A B l h => ht _ _ _ _ _ _ (fun d S1 q => l.nx _ _ q) (fun x S1 q => l.ex _ _ _ q) h
theorem moIfS {c : TTd} {t u : TSd} (hc : MoE c) (ht : MoS t) (hu : MoS u) : MoS (sIf c t u) := fun env S A B l h => hc _ _ _ _ _ _ (fun b S1 q => by
  cases b
  · exact hu _ _ _ _ l q
  · exact ht _ _ _ _ l q) (fun x S1 q => l.ex _ _ _ q) h
theorem moAsg {t : TEd} {g : Tg} (ht : MoE t) : MoS (sAsg t g) := fun env S A B l h => ht _ _ _ _ _ _ (fun d S1 q => by
  split at q
  · exact l.nx _ _ q
  · exact q.elim) (fun x S1 q => l.ex _ _ _ q) h
theorem moPar {is : List Nat} {t : TAd} (ht : MoE t) : MoS (sPar is t) := fun env S A B l h => ht _ _ _ _ _ _ (fun d S1 q => by
  split at q
  · exact l.nx _ _ q
  · exact q.elim) (fun x S1 q => l.ex _ _ _ q) h
theorem moSetD {o i v : D} {S : Sto} {Q Q' : Sto → Prop} (h : ∀ S, Q S → Q' S) (q : setD o i v S Q) : setD o i v S Q' := by
  unfold setD at q ⊢
  split at q <;> first | exact q.elim | skip
  split at q <;> first | exact q.elim | skip
  split at q <;> first | exact q.elim | exact h _ q
theorem moSub' {te to ti : TEd} (h1 : MoE te) (h2 : MoE to) (h3 : MoE ti) : MoS (sSub te to ti) := fun env S A B l h => h1 _ _ _ _ _ _ (fun v S1 q1 => h2 _ _ _ _ _ _ (fun o S2 q2 => h3 _ _ _ _ _ _ (fun i S3 q3 => moSetD (fun S4 q4 => l.nx _ _ q4) q3)
  (fun x S3 q => l.ex _ _ _ q) q2) (fun x S2 q => l.ex _ _ _ q) q1) (fun x S1 q => l.ex _ _ _ q) h
theorem moFrz {i : Nat} {t : TSd} (ht : MoS t) : MoS (sFrz i t) := fun env S A B l h => by
  unfold sFrz at h ⊢
  split at h <;> first | exact h.elim | skip
  split at h <;> first | exact h.elim | exact ht _ _ _ _ l h
theorem moWhile {c : TTd} {b : TSd} (hc : MoE c) (hb : MoS b) : MoS (sWhile c b) := fun env S A B l h => by
  obtain ⟨Wi, h0, turn⟩ := h
  refine ⟨Wi, h0, fun m env S hw => hc _ _ _ _ _ _ (fun k S1 q => ?_) (fun x S1 q => l.ex _ _ _ q) (turn m env S hw)⟩
  cases k
  · exact l.nx _ _ q
  · exact hb _ _ { A with nx := fun e s => ∃ m', m' < m ∧ Wi m' e s, ct := fun e s => ∃ m', m' < m ∧ Wi m' e s, bk := A.nx } _ ⟨fun _ _ z => z, l.rt, l.nx, fun _ _ z => z, l.ex⟩ q
theorem moForD {g : Tg} {b : TSd} (hb : MoS b) : ∀ (ds : List D) (env : Ev) (S : Sto) (A B : Nd), NdLe A B → forD g b ds env S A → forD g b ds env S B
  | [], env, S, A, B, l, h => l.nx _ _ h
  | d :: ds, env, S, A, B, l, h => by
    unfold forD at h ⊢
    split at h <;> first | exact h.elim | skip
    exact hb _ _ { A with nx := fun e s => forD g b ds e s A, ct := fun e s => forD g b ds e s A, bk := A.nx } _ ⟨fun e s q => moForD hb ds e s A B l q, l.rt, l.nx, fun e s q => moForD hb ds e s A B l q, l.ex⟩ h
theorem moFor {ti : TAd} {g : Tg} {b : TSd} (ht : MoE ti) (hb : MoS b) : MoS (sFor ti g b) := fun env S A B l h => ht _ _ _ _ _ _ (fun ds S1 q => moForD hb ds env S1 A B l q) (fun x S1 q => l.ex _ _ _ q) h

section
variable {P : Program} {w : World} {K : PySem.W.Frag} {mg : Str → Option Value} {base : Heap} {N : List Str} {sc : Scope} {vw : Vw} {k : Nat} {X : Cx} {W : WX}
variable {st : Stmt} {rest a b : List Stmt} {t u : TSd} {e o i : Expr} {te to ti : TEd} {tc : TTd} {pos pos' : Pos}
theorem jb_nil : JB X W [] sNx := ⟨PSs.imp pss_nil fun N σ H h => by
  obtain ⟨Z, env, S, re, rs, q⟩ := h
  exact q σ H (.refl rs) re, moNx⟩
theorem jb_cons (h1 : JS X W st t) (h2 : JB X W rest u) : JB X W (st :: rest) (sSeq t u) := by
  refine ⟨PSs.imp (pss_cons h1.ps h2.ps) fun N σ H h => ?_, moSeq h1.mo h2.mo⟩
  obtain ⟨Z, env, S, re, rs, q⟩ := h
  refine LS.of h1.mo re rs q ⟨fun e S1 q1 σ1 H1 a1 r1 => ?_, fun _ _ z => z, fun _ _ z => z, fun _ _ z => z, fun _ _ _ z => z⟩
  exact LS.of h2.mo r1 a1.rs q1 (LN.after a1 N)
theorem jb_one (h1 : JS X W st t) : JB X W [st] t := ⟨pss_one h1.ps, h1.mo⟩
/-- exceptions out of an expression of a statement -/
theorem exS {K : Kz} {S S1 : Sto} {H H1 : Hp} {env : Ev} {σ : L2.St} {M : Ends} {x : Xc} {c : Value} {dx : Option Addr} (re : RE K S H env σ) (rs : RS K S H) (q : (LN K S H W M).ex x env S1) (a : Aft K S H S1 H1) (r : RX K S1 H1 x c dx) : W c dx σ H1 := q c dx σ H1 a (re.step a.st rs) r
theorem js_expr (he : JE X W e te) (hs : swapsWith e none pos.line X.env = pure false := by rfl) : JS X W (.Expr e pos) (sDrop te) := by
  refine ⟨PS.imp (ps_expr he.pe hs) fun N σ H h => ?_, moDrop he.mo⟩
  obtain ⟨Z, env, S, re, rs, q⟩ := h
  exact LE.of he.mo re rs q (fun d S1 v H1 q1 a1 r1 => q1 σ H1 a1 (re.step a1.st rs)) fun x S1 c dx H1 q1 a1 r1 => exS re rs q1 a1 r1
theorem js_ret (he : JE X W e te) : JS X W (.Return (some e) pos) (sRet te) := by
  refine ⟨PS.imp (ps_ret he.pe) fun N σ H h => ?_, moRet he.mo⟩
  obtain ⟨Z, env, S, re, rs, q⟩ := h
  exact LE.of he.mo re rs q (fun d S1 v H1 q1 a1 r1 => q1 v H1 a1 r1) fun x S1 c dx H1 q1 a1 r1 => exS re rs q1 a1 r1
theorem js_if {c : Expr} (hc : JT X W c tc) (ha : JB X W a t) (hb : JB X W b u) : JS X W (.If c a b pos) (sIf tc t u) := by
  refine ⟨PS.imp (ps_if hc.pt ha.ps hb.ps) fun N σ H h => ?_, moIfS hc.mo ha.mo hb.mo⟩
  obtain ⟨Z, env, S, re, rs, q⟩ := h
  refine LT.of hc.mo re rs q (fun c S1 H1 q1 a1 => ?_) fun x S1 c dx H1 q1 a1 r1 => exS re rs q1 a1 r1
  cases c with
  | true => exact iteT (LS.of ha.mo (re.step a1.st rs) a1.rs q1 (LN.after a1 N))
  | false => exact iteF (LS.of hb.mo (re.step a1.st rs) a1.rs q1 (LN.after a1 N))
theorem js_asg {tg : Expr} {g : Tg} (he : JE X W e te) (hg : JG X tg g) (hs : swapsWithSole [tg] e pos.line X.env = pure false := by rfl) (hw : swappedStores [tg] e X.env = pure none := by rfl) (h1 : (assignEach [tg] X.env).map (·.2) = [assign tg X.env] := by rfl) :
    JS X W (.Assign [tg] e pos) (sAsg te g) := by
  refine ⟨PS.imp (ps_asg he.pe hg.pg hs hw h1) fun N σ H h => ?_, moAsg he.mo⟩
  obtain ⟨Z, env, S, re, rs, q⟩ := h
  refine LE.of he.mo re rs q (fun d S1 v H1 q1 a1 r1 => ?_) fun x S1 c dx H1 q1 a1 r1 => exS re rs q1 a1 r1
  split at q1 <;> first | exact q1.elim | skip
  rename_i e1 ee
  exact ⟨Z, env, S1, d, e1, re.step a1.st rs, a1.rs, r1, ee, fun σ' r' _ => q1 σ' H1 a1 r'⟩
theorem js_set (c : JC P w K mg base N sc vw k X W) (j : Nat) {x : Str} (hi : N[j]? = some x) (hx : sc.names.lookup x = some .local ∨ sc.names.lookup x = some .cell ∧ ∀ y, X.fn y = true) (he : JE X W e te) (hs : swapsWith e (some (.Name x pos')) pos.line X.env = pure false := by rfl) :
    JS X W (.Assign [.Name x pos'] e pos) (sAsg te (.nm j)) := by
  obtain ⟨l1, l2⟩ := c.loc hx
  refine ⟨PS.imp (ps_set (i := j) (by rw [c.nn]; exact c.nd) (by rw [c.nn]; exact hi) l1 he.pe hs l2) fun N σ H h => ?_, moAsg he.mo⟩
  obtain ⟨Z, env, S, re, rs, q⟩ := h
  refine LE.of he.mo re rs q (fun d S1 v H1 q1 a1 r1 => ?_) fun x S1 c dx H1 q1 a1 r1 => exS re rs q1 a1 r1
  unfold asgT at q1
  exact q1 _ H1 a1 ((re.step a1.st rs).set r1 j)
theorem js_par {x y : Str} {p q : Expr} {ta : TAd} {px py pt : Pos} {kt k2 : Nat} {pt2 : Pos} (c : JC P w K mg base N sc vw k X W) (l j : Nat) (hl : N[l]? = some x) (hj : N[j]? = some y) (hlj : l ≠ j) (hx : sc.names.lookup x = some .local) (hy : sc.names.lookup y = some .local) (ha : JA X W [p, q] ta)
    (hw : swappedStores [.Tuple [.Name x px, .Name y py] kt pt] (.Tuple [p, q] k2 pt2) X.env = pure (some [x, y])) (hs : swapsWithSole [.Tuple [.Name x px, .Name y py] kt pt] (.Tuple [p, q] k2 pt2) pos.line X.env = pure false := by rfl) :
    JS X W (.Assign [.Tuple [.Name x px, .Name y py] kt pt] (.Tuple [p, q] k2 pt2) pos) (sPar [l, j] ta) := by
  refine ⟨PS.imp (ps_par c.calm (by rw [c.nn]; exact c.nd) (by rw [c.nn]; exact hl) (by rw [c.nn]; exact hj) hlj (by rw [c.ss]; exact hx) (by rw [c.ss]; exact hy) ha.pa hw hs) fun N σ H h => ?_, moPar ha.mo⟩
  obtain ⟨Z, env, S, re, rs, q⟩ := h
  refine LA.of ha.mo re rs q (fun ds S1 vs H1 q1 a1 r1 => ?_) fun x S1 c dx H1 q1 a1 r1 => exS re rs q1 a1 r1
  split at q1 <;> first | exact q1.elim | skip
  rename_i e1 ee
  have ln := asgL_len ee
  match ds, r1, ln, ee with
  | [d1, d2], r1, _, ee =>
    obtain ⟨v1, v2, rfl, r1, r2⟩ := r1.two
    refine ⟨v1, v2, rfl, ?_⟩
    simp only [List.map_cons, List.map_nil, asgL, asgT, Option.some.injEq] at ee
    subst ee
    exact q1 _ H1 a1 (((re.step a1.st rs).set r1 l).set r2 j)
theorem js_sub (ho : JE X W o to) (hi : JE X W i ti) (he : JE X W e te) (hs : swapsWithSole [.Subscript o i pos'] e pos.line X.env = pure false := by rfl) (hw : swappedStores [.Subscript o i pos'] e X.env = pure none := by rfl)
    (h1 : (assignEach [.Subscript o i pos'] X.env).map (·.2) = [assign (.Subscript o i pos') X.env] := by rfl)
    (ha : ∀ v, assign (.Subscript o i pos') X.env v = (do
      let ov ← holding [v] (eval o X.env)
      let iv ← holding [v, ov] (eval i X.env)
      standAt pos'
      holding [v, ov, iv] (setItem ov iv v)
      release [v, ov, iv] []) := by intro _; rfl) : JS X W (.Assign [.Subscript o i pos'] e pos) (sSub te to ti) := by
  refine ⟨PS.imp (ps_asg he.pe (pg_sub ho.pe hi.pe set_list ha) hs hw h1) fun N σ H h => ?_, moSub' he.mo ho.mo hi.mo⟩
  obtain ⟨Z, env, S, re, rs, q⟩ := h
  refine LE.of he.mo re rs q (fun d S1 v H1 q1 a1 r1 => ?_) fun x S1 c dx H1 q1 a1 r1 => exS re rs q1 a1 r1
  refine LE.of ho.mo (re.step a1.st rs) a1.rs q1 (fun d2 S2 ov H2 q2 a2 r2 => ?_) fun x S2 c dx H2 q2 a2 r2 => exS re rs q2 (a1.trans a2) r2
  have a12 := a1.trans a2
  refine LE.of hi.mo (re.step a12.st rs) a2.rs q2 (fun d3 S3 iv H3 q3 a3 r3 => ?_) fun x S3 c dx H3 q3 a3 r3 => exS re rs q3 (a12.trans a3) r3
  have a13 := a12.trans a3
  unfold setD at q3
  split at q3 <;> first | exact q3.elim | skip
  split at q3 <;> first | exact q3.elim | skip
  rename_i ad kk ds e0
  split at q3 <;> first | exact q3.elim | skip
  rename_i jj e1
  cases r2
  cases r3
  obtain ⟨vs, hl, rl⟩ := a3.rs.at_ _ _ e0
  have rv := Rp.step a3.st a2.rs _ _ (Rp.step a2.st a1.rs _ _ r1)
  refine ⟨_, vs, _, jj, rfl, rfl, hl, by rw [← rl.length]; exact e1, ?_⟩
  have a4 := Rp.putR a3.rs e0 (rl.set jj rv)
  exact q3 σ _ (a13.trans a4) (re.step (a13.trans a4).st rs)
theorem js_frz (j : Nat) (h : JS X W st t) : JS X W st (sFrz j t) := by
  refine ⟨PS.imp h.ps fun N σ H q => ?_, moFrz h.mo⟩
  obtain ⟨Z, env, S, re, rs, q⟩ := q
  unfold sFrz at q
  split at q <;> first | exact q.elim | skip
  rename_i ad ee
  split at q <;> first | exact q.elim | skip
  rename_i ds e1
  obtain ⟨a1, r1⟩ := Rp.frz rs e1
  obtain ⟨v, e2, rp⟩ := re.at_ j _ ee
  cases rp
  have re' : RE ⟨X.K, Z⟩ (sdel S ad) H (env.set j (some (.lst ds))) σ := by
    have z := (re.step a1.st rs).set r1 j
    have e3 : σ.set j (some (V.ref ad)) = σ := by
      obtain ⟨hl, e4⟩ := List.getElem?_eq_some_iff.mp e2
      rw [← e4]
      exact List.set_getElem_self hl
    rw [e3] at z
    exact z
  exact LS.of h.mo re' a1.rs q (LN.after a1 N)
theorem js_while {c : Expr} {body : List Stmt} (hd : JD P w K mg base N sc vw k X W) (hc : JT X W c tc) (hb : JB X W body t) : JS X W (.While c body [] pos) (sWhile tc t) := by
  refine ⟨PS.imp (ps_while hd.po hc.pt hb.ps) fun M σ H h => ?_, moWhile hc.mo hb.mo⟩
  obtain ⟨Z, env, S, re, rs, q⟩ := h
  obtain ⟨Wi, ⟨m0, w0⟩, turn⟩ := q
  refine ⟨fun m σ' H' => ∃ env' S', Aft ⟨X.K, Z⟩ S H S' H' ∧ RE ⟨X.K, Z⟩ S' H' env' σ' ∧ Wi m env' S', ⟨m0, env, S, .refl rs, re, w0⟩, fun m σ1 H1 hw => ?_⟩
  obtain ⟨env1, S1, a1, re1, w1⟩ := hw
  refine LT.of hc.mo re1 a1.rs (turn m env1 S1 w1) (fun b S2 H2 q2 a2 => ?_) fun x S2 c dx H2 q2 a2 r2 => q2 c dx σ1 H2 (a1.trans a2) (re1.step a2.st a1.rs) r2
  have a12 := a1.trans a2
  cases b with
  | false => exact iteF (q2 σ1 H2 a12 (re1.step a2.st a1.rs))
  | true =>
    refine iteT ⟨fun σ' H' => ∃ m', m' < m ∧ ∃ env' S', Aft ⟨X.K, Z⟩ S H S' H' ∧ RE ⟨X.K, Z⟩ S' H' env' σ' ∧ Wi m' env' S', fun σ' H' hh => hh, ?_⟩
    refine LS.of hb.mo (re1.step a2.st a1.rs) a2.rs q2 ⟨fun e s hh σ' H' a3 r3 => ?_, fun d s hh v H' a3 r3 => hh v H' (a12.trans a3) r3, fun e s hh σ' H' a3 r3 => hh σ' H' (a12.trans a3) r3, fun e s hh σ' H' a3 r3 => ?_, fun x e s hh c dx σ' H' a3 r3 rx => hh c dx σ' H' (a12.trans a3) r3 rx⟩
    · obtain ⟨m', hm, hw⟩ := hh
      exact ⟨m', hm, e, s, a12.trans a3, r3, hw⟩
    · obtain ⟨m', hm, hw⟩ := hh
      exact ⟨m', hm, e, s, a12.trans a3, r3, hw⟩
end

/-! ### what is walked -/
def WkD (K : Kz) (S : Sto) (H : Hp) (J : It) (ds : List D) : Prop := ∃ (G : Hp → Prop) (Y : Nat → Hp → V → Hp → Prop), Walk J ds.length G Y ∧ (∀ S' H', Step S H S' H' → G H') ∧
  ∀ (K' : Kz) i S' H' x H'', K'.K = K.K → Step S H S' H' → RS K' S' H' → (∀ d v, Rp K S H d v → Rp K' S' H' d v) → i < ds.length → Y i H' x H'' → Aft K' S' H' S' H'' ∧ ∃ d, ds[i]? = some d ∧ Rp K' S' H'' d x
def LI (K : PySem.W.Frag) (W : WX) (t : TAd) : TI := fun σ H R => ∃ Z env S, RE ⟨K, Z⟩ S H env σ ∧ RS ⟨K, Z⟩ S H ∧ t env S (fun ds S' => ∀ J H', Aft ⟨K, Z⟩ S H S' H' → WkD ⟨K, Z⟩ S' H' J ds → R J H') (PX ⟨K, Z⟩ S H σ W)
structure JI (X : Cx) (W : WX) (tg iter : Expr) (t : TAd) : Prop where
  pi : PI X tg iter (LI X.K W t)
  mo : MoE t
theorem LI.of {K : Kz} {W : WX} {S : Sto} {H : Hp} {env : Ev} {σ : L2.St} {t : TAd} (mo : MoE t) (re : RE K S H env σ) (rs : RS K S H) {C : List D → Sto → Prop} {E : EK} {R : It → Hp → Prop} (h : t env S C E)
    (hc : ∀ ds S1 J H1, C ds S1 → Aft K S H S1 H1 → WkD K S1 H1 J ds → R J H1) (he : ∀ x S1 c dx H1, E x S1 → Aft K S H S1 H1 → RX K S1 H1 x c dx → W c dx σ H1) : LI K.K W t σ H R :=
  ⟨K.Z, env, S, re, rs, mo _ _ _ _ _ _ (fun ds S1 q J H1 a wk => hc ds S1 J H1 q a wk) (fun x S1 q c dx H1 a r => he x S1 c dx H1 q a r) h⟩
section
variable {P : Program} {w : World} {K : PySem.W.Frag} {mg : Str → Option Value} {base : Heap} {N : List Str} {sc : Scope} {vw : Vw} {k : Nat} {X : Cx} {W : WX}
theorem js_for {tg iter : Expr} {body : List Stmt} {tb : TSd} {ti : TAd} {g : Tg} {pos : Pos} (hd : JD P w K mg base N sc vw k X W) (hi : JI X W tg iter ti) (hg : JG X tg g) (hb : JB X W body tb) (hs : ∀ x, foldedSetIterable iter X.env x = pure x := by intro _; rfl) : JS X W (.For tg iter body [] pos) (sFor ti g tb) := by
  refine ⟨PS.imp (ps_for hd.po hd.calm hi.pi hg.pg hb.ps hs) fun M σ H h => ?_, moFor hi.mo hb.mo⟩
  obtain ⟨Z, env, S, re, rs, q⟩ := h
  refine LI.of hi.mo re rs q (fun ds S1 J H1 q1 a1 wk => ?_) fun x S1 c dx H1 q1 a1 r1 => exS re rs q1 a1 r1
  obtain ⟨G, Y, wk, hG, hY⟩ := wk
  refine for_it wk (fun i σ' H' => ∃ env' S', Aft ⟨X.K, Z⟩ S1 H1 S' H' ∧ RE ⟨X.K, Z⟩ S' H' env' σ' ∧ forD g tb (ds.drop i) env' S' (LN ⟨X.K, Z⟩ S H W M)) ⟨env, S1, .refl a1.rs, re.step a1.st rs, q1⟩ (fun i σ' H' _ ⟨env', S', a, _, _⟩ => hG S' H' a.st) (fun i x σ' H' H'' hi hp y => ?_) fun σ' H' hp => ?_
  · obtain ⟨env', S', a, re', q'⟩ := hp
    obtain ⟨a2, d, ed, rd⟩ := hY ⟨X.K, Z⟩ i S' H' x H'' rfl a.st a.rs (fun d v r => Rp.step a.st a1.rs d v r) hi y
    have e0 : ds.drop i = d :: ds.drop (i + 1) := by
      rw [List.drop_eq_getElem_cons hi]
      congr 1
      rw [List.getElem?_eq_getElem hi] at ed
      exact Option.some.inj ed
    rw [e0] at q'
    unfold forD at q'
    split at q' <;> first | exact q'.elim | skip
    rename_i e1 ee
    have a3 := a.trans a2
    have a13 := a1.trans a3
    refine ⟨Z, env', S', d, e1, re'.step a2.st a.rs, a2.rs, rd, ee, fun σ2 r2 _ => ?_⟩
    refine LS.of hb.mo r2 a2.rs q' ⟨fun e s hh σ3 H3 a4 r3 => ⟨e, s, a3.trans a4, r3, hh⟩, fun d s hh v H3 a4 r3 => hh v H3 (a13.trans a4) r3, fun e s hh σ3 H3 a4 r3 => hh σ3 H3 (a13.trans a4) r3, fun e s hh σ3 H3 a4 r3 => ⟨e, s, a3.trans a4, r3, hh⟩, fun x e s hh c dx σ3 H3 a4 r3 rx => hh c dx σ3 H3 (a13.trans a4) r3 rx⟩
  · obtain ⟨env', S', a, re', q'⟩ := hp
    rw [List.drop_length] at q'
    unfold forD at q'
    exact q' σ' H' (a1.trans a) re'

/-! #### iterators -/
theorem it_list {tg : Expr} {pins : List (Addr × Obj)} {σ : L2.St} {H : Hp} {s : Shared} {R : It → Hp → Prop} {a : Addr} {xs : List V} (I : Inv X pins σ H s) (hq : SqL X.K H a xs) (q : R (Itl X.K a) H) : wpAny (model X.prog X.w) X.A (pyIter (.ref a)) (PIE X pins σ tg R) X.xe s := by
  obtain ⟨its, _, pln, _⟩ := I.list hq
  refine wpAny_pyIter_list pln.isList ⟨s.heap.objs.size, [s.heap.objs.size], _, _, H, rfl, I.kept (t' := s.toks) fun _ _ e => Heap.get?_push_of_some _ e, turn_list a _, ⟨_, Heap.get?_push_size _ rfl, rfl, rfl⟩, fun b hb => ?_, q⟩
  obtain rfl : b = s.heap.objs.size := by simpa using hb
  exact I.fpOk (Nat.le_refl _) (I.hok.fresh (Nat.le_refl _))
theorem it_tup {tg : Expr} {pins : List (Addr × Obj)} {σ : L2.St} {H : Hp} {s : Shared} {R : It → Hp → Prop} {a : Addr} {xs : List V} (I : Inv X pins σ H s) (hq : SqT X.K H a xs) (q : R (Itt X.K a) H) : wpAny (model X.prog X.w) X.A (pyIter (.ref a)) (PIE X pins σ tg R) X.xe s := by
  obtain ⟨its, _, pln, _⟩ := I.tuple hq
  refine wpAny_pyIter_tuple (show s.heap.IsTuple a its.toArray from pln) ⟨s.heap.objs.size, [s.heap.objs.size], _, _, H, rfl, I.kept (t' := s.toks) fun _ _ e => Heap.get?_push_of_some _ e, turn_tuple a _, ⟨_, Heap.get?_push_size _ rfl, rfl, rfl⟩, fun b hb => ?_, q⟩
  obtain rfl : b = s.heap.objs.size := by simpa using hb
  exact I.fpOk (Nat.le_refl _) (I.hok.fresh (Nat.le_refl _))
/-- a list or a tuple that stands still -/
def iVal (t : TEd) : TAd := fun env S Q E => t env S (fun d S1 => match d with
  | .tup ds => Q ds S1
  | .lst ds => Q ds S1
  | _ => False) E
theorem moIVal {t : TEd} (ht : MoE t) : MoE (iVal t) := fun env S Q Q' E E' h he q => ht _ _ _ _ _ _ (fun d S1 q1 => by
  cases d <;> first | exact h _ _ q1 | exact q1) he q
theorem wk_at {K : Kz} {S : Sto} {H : Hp} {J : It} {G : Hp → Prop} {ds : List D} {vs : List V} (rl : RpL K S H ds vs) (wk : Walk J vs.length G (YAt vs)) (hG : ∀ S' H', Step S H S' H' → G H') : WkD K S H J ds := by
  refine ⟨G, YAt vs, by rw [rl.length]; exact wk, hG, fun K' i S' H' x H'' _ _ rs' tr hi y => ?_⟩
  obtain ⟨rfl, e⟩ := y
  obtain ⟨d, e1, r1⟩ := rl.get' e
  exact ⟨.refl rs', d, e1, tr d x r1⟩
theorem wk_list {K : Kz} {S : Sto} {H : Hp} {a : Addr} {ds : List D} (r : Rp K S H (.lst ds) (.ref a)) : WkD K S H (Itl K.K a) ds := by
  cases r with
  | lst h1 h2 _ h4 => exact wk_at h4 walk_list fun S' H' st => .inl (st.rdL h1 h2).1
  | lstK h1 h2 => exact wk_at h2 walk_list fun S' H' st => SqL.ofK h1
theorem wk_tup {K : Kz} {S : Sto} {H : Hp} {a : Addr} {ds : List D} (rs : RS K S H) (r : Rp K S H (.tup ds) (.ref a)) : WkD K S H (Itt K.K a) ds := by
  cases r with
  | tup h1 h2 => exact wk_at h2 walk_tup fun S' H' st => st.sqT rs h1
theorem ji_val {tg e : Expr} {te : TEd} (he : JE X W e te) : JI X W tg e (iVal te) := by
  refine ⟨⟨fun pins s σ H R I h => ?_⟩, moIVal he.mo⟩
  obtain ⟨Z, env, S, re, rs, q⟩ := h
  refine thn (he.pe.run pins s σ H _ I (LE.of he.mo re rs q (R := fun v H1 => ∃ d S1, Aft ⟨X.K, Z⟩ S H S1 H1 ∧ Rp ⟨X.K, Z⟩ S1 H1 d v ∧ match d with
    | .tup ds => ∀ J H', Aft ⟨X.K, Z⟩ S H S1 H' → WkD ⟨X.K, Z⟩ S1 H' J ds → R J H'
    | .lst ds => ∀ J H', Aft ⟨X.K, Z⟩ S H S1 H' → WkD ⟨X.K, Z⟩ S1 H' J ds → R J H'
    | _ => False) (fun d S1 v H1 q1 a1 r1 => ⟨d, S1, a1, r1, q1⟩) fun x S1 c dx H1 q1 a1 r1 => q1 c dx H1 a1 r1)) fun u s1 ⟨v, H1, I1, ru, d, S1, a1, r1, q1⟩ => ?_
  cases d <;> first | exact q1.elim | skip
  · obtain ⟨a, vs, rfl, hq, _⟩ := r1.sqT
    cases ru
    exact it_tup I1 hq (q1 _ H1 a1 (wk_tup a1.rs r1))
  · obtain ⟨a, vs, rfl, hq, _⟩ := r1.sqL
    cases ru
    exact it_list I1 hq (q1 _ H1 a1 (wk_list r1))
/-! ranges -/
def rngD (lo : Int) (n : Nat) : List D := (List.range n).map fun i : Nat => D.int (lo + i)
def iR1 (t : TAd) : TAd := fun env S Q E => t env S (fun ds S1 => match ds with
  | [.int j] => -(2 ^ 62) ≤ j ∧ j < 2 ^ 62 ∧ Q (rngD 0 j.toNat) S1
  | _ => False) E
def iR2 (t : TAd) : TAd := fun env S Q E => t env S (fun ds S1 => match ds with
  | [.int i, .int j] => (-(2 ^ 62) ≤ i ∧ i < 2 ^ 62 ∧ -(2 ^ 62) ≤ j ∧ j < 2 ^ 62) ∧ Q (rngD i (j - i).toNat) S1
  | _ => False) E
theorem moR1 {t : TAd} (ht : MoE t) : MoE (iR1 t) := fun env S Q Q' E E' h he q => ht _ _ _ _ _ _ (fun ds S1 q1 => by
  split at q1
  · exact ⟨q1.1, q1.2.1, h _ _ q1.2.2⟩
  · exact q1.elim) he q
theorem moR2 {t : TAd} (ht : MoE t) : MoE (iR2 t) := fun env S Q Q' E E' h he q => ht _ _ _ _ _ _ (fun ds S1 q1 => by
  split at q1
  · exact ⟨q1.1, h _ _ q1.2⟩
  · exact q1.elim) he q
theorem wk_rng {K : Kz} {S : Sto} {H : Hp} {lo : Int} {n : Nat} : WkD K S H (Itr lo n) (rngD lo n) := by
  have hl : (rngD lo n).length = n := by simp [rngD]
  refine ⟨fun _ => True, YFn fun i => .int (lo + i), by rw [hl]; exact walk_range, fun _ _ _ => trivial, fun K' i S' H' x H'' _ _ rs' tr hi y => ?_⟩
  obtain ⟨rfl, rfl⟩ := y
  rw [hl] at hi
  exact ⟨.refl rs', .int (lo + i), by simp [rngD, hi], .int _⟩
theorem PI.imp {X : Cx} {tg e : Expr} {t u : TI} (h : PI X tg e t) (k : ∀ σ H Q, u σ H Q → t σ H Q) : PI X tg e u := ⟨fun pins s σ H Q I q => h.run pins s σ H Q I (k σ H Q q)⟩
theorem ji_r1 {tg e : Expr} {ta : TAd} {p pos : Pos} (c : JC P w K mg base N sc vw k X W) (hx : ("range" : Str) ∈ vw.gs) (hm : mg "range" = none) (ha : JA X W [e] ta) (hs : starEach [e] X.env = [(false, eval e X.env)] := by rfl) : JI X W tg (.Call (.Name "range" p) [e] [] pos) (iR1 ta) := by
  refine ⟨PI.imp (pi_range1 (c.gl hx) (by rw [c.gg]; exact hm) ha.pa hs) fun σ H R h => ?_, moR1 ha.mo⟩
  obtain ⟨Z, env, S, re, rs, q⟩ := h
  refine LA.of ha.mo re rs q (fun ds S1 vs H1 q1 a1 r1 => ?_) fun x S1 c dx H1 q1 a1 r1 => q1 c dx H1 a1 r1
  split at q1 <;> first | exact q1.elim | skip
  obtain ⟨v, rfl, r2⟩ := r1.one
  cases r2
  exact ⟨_, rfl, q1.1, q1.2.1, q1.2.2 _ H1 a1 wk_rng⟩
end

/-! ### list comprehensions -/
def wipeD (env : Ev) : List Nat → Ev
  | [] => env
  | v :: vs => (wipeD env vs).set v none
theorem RE.wipe {K : Kz} {S : Sto} {H : Hp} {env : Ev} {σ : L2.St} (re : RE K S H env σ) : ∀ vs : List Nat, RE K S H (wipeD env vs) (wipe σ vs)
  | [] => re
  | v :: vs => (RE.wipe re vs).unset v
abbrev EF : EK := fun _ _ => False
def lcGo (g : Tg) (tt : TTd) (te : TEd) (env : Ev) : List D → Sto → (List D → Sto → Prop) → Prop
  | [], S, Q => Q [] S
  | d :: ds, S, Q => match asgT S g d env with
    | some e1 => tt e1 S (fun b S1 => if b = true then te e1 S1 (fun y S2 => lcGo g tt te env ds S2 fun ys S3 => Q (y :: ys) S3) EF else lcGo g tt te env ds S1 Q) EF
    | none => False
def dLc (ti : TAd) (g : Tg) (tt : TTd) (te : TEd) (vs : List Nat) : TEd := fun env S Q E => ti env S (fun ds S1 => ds.length < sizeLine ∧ lcGo g tt te (wipeD env vs) ds S1 fun ys S2 => Q (.lst ys) S2) E
/-- the list that is made is to be grown -/
def dLcR (ti : TAd) (g : Tg) (tt : TTd) (te : TEd) (vs : List Nat) : TEd := fun env S Q E => ti env S (fun ds S1 => ds.length < sizeLine ∧ lcGo g tt te (wipeD env vs) ds S1 fun ys S2 => ∀ a, S2 a = none → Q (.ref a) (sup S2 a ys)) E
theorem moLcGo {g : Tg} {tt : TTd} {te : TEd} (ht : MoE tt) (he : MoE te) (env : Ev) : ∀ (ds : List D) (S : Sto) (Q Q' : List D → Sto → Prop), (∀ ys S, Q ys S → Q' ys S) → lcGo g tt te env ds S Q → lcGo g tt te env ds S Q'
  | [], S, Q, Q', h, q => h _ _ q
  | d :: ds, S, Q, Q', h, q => by
    unfold lcGo at q ⊢
    split at q <;> first | exact q.elim | skip
    refine ht _ _ _ _ _ _ (fun b S1 q1 => ?_) (fun _ _ z => z) q
    cases b with
    | false => exact iteF (moLcGo ht he env ds S1 Q Q' h q1)
    | true => exact iteT (he _ _ _ _ _ _ (fun y S2 q2 => moLcGo ht he env ds S2 _ _ (fun ys S3 q3 => h _ _ q3) q2) (fun _ _ z => z) q1)
theorem moLc {ti : TAd} {g : Tg} {tt : TTd} {te : TEd} {vs : List Nat} (hi : MoE ti) (ht : MoE tt) (he : MoE te) : MoE (dLc ti g tt te vs) := fun env S Q Q' E E' h hx q => hi _ _ _ _ _ _ (fun ds S1 q1 => ⟨q1.1, moLcGo ht he _ _ _ _ _ (fun ys S2 q2 => h _ _ q2) q1.2⟩) hx q
def tYesD : TTd := fun _ S Q _ => Q true S
theorem moYesD : MoE tYesD := fun env S Q Q' E E' h he q => h _ _ q
structure JTs (X : Cx) (W : WX) (ifs : List Expr) (t : TTd) : Prop where
  pt : PTs X ifs (LT X.K W t)
  mo : MoE t
abbrev W0 : WX := fun _ _ _ _ => False
theorem jts_nil {X : Cx} {W : WX} : JTs X W [] tYesD := ⟨⟨fun pins s σ H Q I h => by
  obtain ⟨Z, env, S, re, rs, q⟩ := h
  exact pts_nil.run pins s σ H Q I (q H (.refl rs))⟩, moYesD⟩
/-- the turns of a comprehension, the new list at p out of sight -/
theorem lc_run {K : Kz} {J : It} {S : Sto} {H : Hp} {g : Tg} {tt : TTd} {te : TEd} {vs : List Nat} {env : Ev} {σ : L2.St} {ds : List D} {p : Addr} {Qd : Hp → Prop} {QQ : List D → Sto → Prop} (ht : MoE tt) (he : MoE te) (hgv : ∀ i ∈ tgS g, i ∈ vs) (re : RE K S H env σ) (rs : RS K S H) (wk : WkD K S H J ds) (hp : H p = none)
    (hl : ds.length < sizeLine) (h : lcGo g tt te (wipeD env vs) ds S QQ)
    (hd : ∀ S' H' acc accD, QQ accD S' → Step S H S' H' → RS (K.more p) S' H' → H' p = some (.lst acc) → RpL (K.more p) S' H' accD acc → Qd H') :
    ∃ Wi : Nat → Nat → Hp → Prop, (∃ m, Wi 0 m (upd H p (.lst []))) ∧ ∀ i m H, Wi i m H →
      (J.stop i H ∧ Qd H) ∨ (J.go i H ∧ ∃ Nx : Hp → Prop, (∀ H', Nx H' → ∃ m', m' < m ∧ Wi (i + 1) m' H') ∧ ∀ x H', J.yld i H x H' → LG K.K g x (wipe σ vs) H' fun σ2 H2 => wipe σ2 vs = wipe σ vs ∧ LT K.K W0 tt σ2 H2 fun b H3 =>
        if b = true then LE K.K W0 te σ2 H3 fun y H4 => ∃ acc, H4 p = some (.lst acc) ∧ acc.length < sizeLine ∧ Nx (upd H4 p (.lst (acc ++ [y]))) else Nx H3) := by
  obtain ⟨G, Y, wk, hG, hY⟩ := wk
  refine lc_it wk (fun i H' => ∃ S' acc accD, H' p = some (.lst acc) ∧ RpL (K.more p) S' H' accD acc ∧ accD.length ≤ i ∧ Step S H S' H' ∧ RS (K.more p) S' H' ∧ (∀ d v, Rp K S H d v → Rp (K.more p) S' H' d v) ∧ lcGo g tt te (wipeD env vs) (ds.drop i) S' fun ys S2 => QQ (accD ++ ys) S2)
    ⟨S, [], [], upd_same, .nil, Nat.le_refl _, fun b o e n => ⟨n, by rw [upd_ne (ne_of_none e hp)]; exact e⟩, rs.hide hp, fun d v r => Rp.hide hp d v r, h⟩ (fun i H' _ ⟨S', _, _, _, _, _, st, _⟩ => hG S' H' st) (fun i x H' H'' hi hPv y => ?_) fun H' hPv => ?_
  · obtain ⟨S', acc, accD, e1, rl, la, st, rs', tr, q⟩ := hPv
    obtain ⟨a2, d, ed, rd⟩ := hY (K.more p) i S' H' x H'' rfl st rs' tr hi y
    have e0 : ds.drop i = d :: ds.drop (i + 1) := by
      rw [List.drop_eq_getElem_cons hi]
      congr 1
      rw [List.getElem?_eq_getElem hi] at ed
      exact Option.some.inj ed
    rw [e0] at q
    unfold lcGo at q
    split at q <;> first | exact q.elim | skip
    rename_i env1 ee
    have re' : RE (K.more p) S' H' env σ := ⟨re.len, fun j d e => by
      obtain ⟨v, e2, r⟩ := re.at_ j d e
      exact ⟨v, e2, tr d v r⟩⟩
    have np : S' p = none := (rs'.hid p (.inr rfl)).1
    refine ⟨fun b => K.Z b ∨ b = p, wipeD env vs, S', d, env1, (re'.wipe vs).step a2.st rs', a2.rs, rd, ee, fun σ2 r2 w2 => ⟨?_, ?_⟩⟩
    · rw [w2 vs hgv]
      have z : ∀ (σ : L2.St) (vs : List Nat), wipe (wipe σ vs) vs = wipe σ vs := by
        intro σ vs
        have z2 : ∀ us : List Nat, (∀ u ∈ us, u ∈ vs) → wipe (wipe σ us) vs = wipe σ vs := by
          intro us
          induction us with
          | nil => intro _; rfl
          | cons u us ih =>
            intro hu
            show wipe ((wipe σ us).set u none) vs = _
            rw [wipe_in (hu u (by simp)), ih fun v hv => hu v (by simp [hv])]
        exact z2 vs fun _ h => h
      exact z σ vs
    refine LT.of (K := K.more p) ht r2 a2.rs q (fun b S3 H3 q3 a3 => ?_) fun x S3 c dx H3 q3 _ _ => q3
    have a23 := a2.trans a3
    have e3 : H3 p = some (.lst acc) := (a23.st p _ e1 np).2
    have st3 : Step S H S3 H3 := st.trans a23.st
    cases b with
    | false =>
      refine iteF ⟨S3, acc, accD, e3, RpL.step a23.st rs' _ _ rl, Nat.le_succ_of_le la, st3, a3.rs, fun d v r => Rp.step a23.st rs' _ _ (tr d v r), q3⟩
    | true =>
      refine iteT (LE.of (K := K.more p) he (r2.step a3.st a2.rs) a3.rs q3 (fun yD S4 yv H4 q4 a4 r4 => ?_) fun x S4 c dx H4 q4 _ _ => q4)
      have a24 := a23.trans a4
      have e4 : H4 p = some (.lst acc) := (a24.st p _ e1 np).2
      have lacc : acc.length ≤ i := by rw [← rl.length]; exact la
      refine ⟨acc, e4, by omega, S4, acc ++ [yv], accD ++ [yD], upd_same, ?_, ?_, ?_, a4.rs.grow e4, fun d v r => Rp.grow e4 _ _ (Rp.step a24.st rs' _ _ (tr d v r)), ?_⟩
      · exact RpL.grow e4 _ _ ((RpL.step a24.st rs' _ _ rl).append (.cons r4 .nil))
      · rw [List.length_append, List.length_singleton]; omega
      · intro b o e n
        obtain ⟨n1, h1⟩ := (st.trans a24.st) b o e n
        exact ⟨n1, by rw [upd_ne (ne_of_none e hp)]; exact h1⟩
      · simpa only [List.append_assoc, List.singleton_append] using q4
  · obtain ⟨S', acc, accD, e1, rl, la, st, rs', tr, q⟩ := hPv
    rw [List.drop_length] at q
    unfold lcGo at q
    rw [List.append_nil] at q
    exact hd S' H' acc accD q st rs' e1 rl
section
variable {P : Program} {w : World} {K : PySem.W.Frag} {mg : Str → Option Value} {base : Heap} {N : List Str} {sc : Scope} {vw : Vw} {k : Nat} {X : Cx} {W : WX}
variable {elt tg iter : Expr} {ifs : List Expr} {scope : Scope} {pos : Pos} {ti : TAd} {g : Tg} {tt : TTd} {te : TEd} {own : List (Str × Nat)} {vw2 : Vw}
/-- the block's own context -/
theorem JC.blk (c : JC P w K mg base N sc vw k X W) (s2 : Sc N (relS scope sc) vw2) (hk : scope.kind = .function) (s : Shared) (H : Hp) (C : Addr) (cl : List (Str × Addr)) (fp : List Addr) : JC P w K mg base N (relS scope sc) vw2 k (X.blk s H scope (compEnvC scope cl C X.env) fp) W0 where
  prog := c.prog
  ww := c.ww
  kk := c.kk
  gg := c.gg
  bb := c.bb
  nn := c.nn
  ss := by rw [← c.ss]; rfl
  sC := s2
  nd := c.nd
  calm := c.calm
  room := c.room
  tk := takes0
  kd := hk
theorem lcOf (hi : JI X W tg iter ti) (ht : MoE tt) (he : MoE te) (hgv : ∀ i ∈ tgS g, i ∈ own.map (·.2)) {σ : L2.St} {H : Hp} {Q : VK} (h : LE X.K W (dLc ti g tt te (own.map (·.2))) σ H Q) : tLc (LI X.K W ti) (LG X.K g) (LT X.K W0 tt) (LE X.K W0 te) (own.map (·.2)) σ H Q := by
  obtain ⟨Z, env, S, re, rs, q⟩ := h
  refine LI.of hi.mo re rs q (fun ds S1 J H1 q1 a1 wk => ?_) fun x S1 c dx H1 q1 a1 r1 => q1 c dx H1 a1 r1
  intro p hp
  refine lc_run (K := ⟨X.K, Z⟩) ht he hgv (re.step a1.st rs) a1.rs wk hp q1.1 q1.2 fun S' H' acc accD qq st rs' e rl => ?_
  exact qq _ H' (a1.trans ⟨st, rs'.show_⟩) (Rp.made rs' e (a1.rs.nz hp) rl)
theorem je_lc (c : JC P w K mg base N sc vw k X W) (ok : blkC N sc scope own = true) (s2 : Sc N (relS scope sc) vw2) (hgv : ∀ i ∈ tgS g, i ∈ own.map (·.2)) (hi : JI X W tg iter ti)
    (hg : ∀ X2, JC P w K mg base N (relS scope sc) vw2 k X2 W0 → JG X2 tg g) (ht : ∀ X2, JC P w K mg base N (relS scope sc) vw2 k X2 W0 → JTs X2 W0 ifs tt) (he : ∀ X2, JC P w K mg base N (relS scope sc) vw2 k X2 W0 → JE X2 W0 elt te) (mt : MoE tt) (me : MoE te)
    (hs : ∀ x, foldedSetIterable iter X.env x = pure x := by intro _; rfl) : JE X W (.ListComp elt [⟨tg, iter, ifs, 0⟩] scope pos) (dLc ti g tt te (own.map (·.2))) := by
  have bo : BlkOk X.N X.env.scope scope own := by rw [c.nn, c.ss]; exact blkOk_by ok
  have jc := fun s H C cl fp => c.blk s2 bo.kind s H C cl fp
  refine ⟨PE.imp (pe_lc (own := own) c.calm (by rw [c.nn]; exact c.nd) hi.pi bo (fun s H C cl fp => (hg _ (jc s H C cl fp)).pg) (fun s H C cl fp => (ht _ (jc s H C cl fp)).pt) (fun s H C cl fp => (he _ (jc s H C cl fp)).pe) hs) fun σ H Q h => lcOf hi mt me hgv h, moLc hi.mo mt me⟩
end

/-! ### methods of lists that are grown -/
abbrev GM := Addr → List D → Sto → DK → Prop
def dLm (f : GM) (to : TEd) (ta : TAd) : TEd := fun env S Q E => to env S (fun o S1 => match o with
  | .ref a => (S1 a).isSome = true ∧ ta env S1 (fun ds S2 => f a ds S2 Q) E
  | _ => False) E
structure MtD (X : Cx) (id : String) (f : GM) : Prop where
  mo : ∀ a ds S (Q Q' : DK), (∀ d S, Q d S → Q' d S) → f a ds S Q → f a ds S Q'
  run : MtR X id fun x vs H Q => ∃ Z S a ds, x = .ref a ∧ RS ⟨X.K, Z⟩ S H ∧ RpL ⟨X.K, Z⟩ S H ds vs ∧ f a ds S (PQ ⟨X.K, Z⟩ S H Q)
theorem moLm {f : GM} {to : TEd} {ta : TAd} (hf : ∀ a ds S (Q Q' : DK), (∀ d S, Q d S → Q' d S) → f a ds S Q → f a ds S Q') (h1 : MoE to) (h2 : MoE ta) : MoE (dLm f to ta) := fun env S Q Q' E E' h he q => h1 _ _ _ _ _ _ (fun o S1 q1 => by
  cases o <;> first | exact q1 | exact ⟨q1.1, h2 _ _ _ _ _ _ (fun ds S2 q2 => hf _ _ _ _ _ h q2) he q1.2⟩) he q
section
variable {X : Cx} {W : WX} {o e : Expr} {es : List Expr} {to : TEd} {ta : TAd} {name : Str} {apos cpos : Pos} {id : String} {f : GM}
theorem je_lm (slot : Slot "list" name id) (hty : typeOf (.builtin id) = pure (.type "method_descriptor")) (hm : MtD X id f) (ho : JE X W o to) (ha : JA X W (e :: es) ta)
    (hbase : attributeBase o name X.env (eval o X.env) = eval o X.env := by rfl)
    (hfew : ((backTo cpos (starEach (e :: es) X.env)).all (fun x => !x.1) && (backToKw cpos (keywordEach [] X.env)).all (fun x => x.1.isSome) && decide ((e :: es).length + ([] : List Keyword).length + (if ([] : List Keyword).isEmpty then 0 else 1) < 30)) = true := by rfl)
    (hline : (apos.endLine == cpos.line) = true := by rfl) (hs : starEach (e :: es) X.env = (false, eval e X.env) :: starEach es X.env := by rfl) (hplain : (backTo cpos (starEach es X.env)).any (·.1) = false := by rfl) :
    JE X W (.Call (.Attribute o name apos) (e :: es) [] cpos) (dLm f to ta) := by
  refine ⟨PE.imp (pe_bm PySem.F.plainAttrs_list slot hty hm.run ho.pe ha.pa hbase hfew hline hs hplain) fun σ H Q h => ?_, moLm hm.mo ho.mo ha.mo⟩
  obtain ⟨Z, env, S, re, rs, q⟩ := h
  refine LE.of ho.mo re rs q (fun d S1 v H1 q1 a1 r1 => ?_) fun x S1 c dx H1 q1 a1 r1 => q1 c dx H1 a1 r1
  cases d <;> first | exact q1.elim | skip
  rename_i a
  cases r1
  obtain ⟨ds, e1⟩ := Option.isSome_iff_exists.mp q1.1
  obtain ⟨vs, hl, _⟩ := a1.rs.at_ a ds e1
  refine ⟨.inl ⟨rfl, vs, SqL.of hl⟩, LA.of ha.mo (re.step a1.st rs) a1.rs q1.2 (fun ds2 S2 vs2 H2 q2 a2 r2 => ?_) fun x S2 c dx H2 q2 a2 r2 => q2 c dx H2 (a1.trans a2) r2⟩
  exact ⟨Z, S2, a, ds2, rfl, a2.rs, r2, hm.mo _ _ _ _ _ (fun d S3 q3 => PQ.after (a1.trans a2) q3) q2⟩
def gApp : GM := fun a ds S Q => match ds with
  | [d] => match S a with
    | some xs => xs.length < sizeLine ∧ Q .non (sup S a (xs ++ [d]))
    | none => False
  | _ => False
theorem md_append : MtD X "list.append" gApp := by
  refine ⟨fun a ds S Q Q' h q => ?_, fun pins s σ H x xs v us Q I rx rv h => ?_⟩
  · unfold gApp at q ⊢
    split at q <;> first | exact q.elim | skip
    split at q <;> first | exact q.elim | exact ⟨q.1, h _ _ q.2⟩
  · obtain ⟨Z, S, a, ds, rfl, rs, rl, q⟩ := h
    unfold gApp at q
    split at q <;> first | exact q.elim | skip
    split at q <;> first | exact q.elim | skip
    rename_i d _ ys e
    obtain ⟨y, rfl, r1⟩ := rl.one
    obtain ⟨vs, hl, rv2⟩ := rs.at_ a ys e
    refine mt_append pins s σ H _ _ v us Q I rx rv ⟨a, vs, y, rfl, rfl, hl, by rw [← rv2.length]; exact q.1, ?_⟩
    exact q.2 _ _ (Rp.putR rs e (rv2.append (.cons r1 .nil))) .non
theorem je_append (ho : JE X W o to) (ha : JA X W [e] ta) (hbase : attributeBase o "append" X.env (eval o X.env) = eval o X.env := by rfl) (hline : (apos.endLine == cpos.line) = true := by rfl) (hs : starEach [e] X.env = (false, eval e X.env) :: starEach [] X.env := by rfl)
    (hfew : ((backTo cpos (starEach [e] X.env)).all (fun x => !x.1) && (backToKw cpos (keywordEach [] X.env)).all (fun x => x.1.isSome) && decide ([e].length + ([] : List Keyword).length + (if ([] : List Keyword).isEmpty then 0 else 1) < 30)) = true := by rfl) : JE X W (.Call (.Attribute o "append" apos) [e] [] cpos) (dLm gApp to ta) :=
  je_lm PySem.F.slot_list_append PySem.F.type_list_append md_append ho ha hbase hfew hline hs rfl
end

/-! ### raise, try -/
def sRaise (x : Str) : TSd := fun env S N => N.ex ⟨x, []⟩ env S
theorem moRaise {x : Str} : MoS (sRaise x) := fun env S A B l h => l.ex _ _ _ h
theorem js_raise {X : Cx} {W : WX} {e : Expr} {x : Str} {C : Addr} {pos : Pos} (hc : X.calm = true) (tk : Takes X W) (hC : PySem.W.nsIn X.K mainGlobals x = some (some (.ref C))) (he : PMk X e (fun _ H Q => Q (.ref C) none H)) : JS X W (.Raise (some e) none pos) (sRaise x) := by
  refine ⟨PS.imp (ps_raise hc tk he) fun N σ H h => ?_, moRaise⟩
  obtain ⟨Z, env, S, re, rs, q⟩ := h
  exact q _ none σ H (.refl rs) re ⟨⟨C, hC, rfl⟩, rfl⟩
/-- a try whose body raises nothing -/
def sThru (t u : TSd) : TSd := fun env S N => t env S { N with nx := fun e s => u e s N, ex := fun _ _ _ => False }
theorem moThru {t u : TSd} (ht : MoS t) (hu : MoS u) : MoS (sThru t u) := fun env S A B l h => ht _ _ { A with nx := fun e s => u e s A, ex := fun _ _ _ => False } _ ⟨fun e s q => hu _ _ _ _ l q, l.rt, l.bk, l.ct, fun _ _ _ z => z⟩ h
end Bl

namespace Bl
open PySem PySem.Spec PyProof.Rows L2

/-! ### a def -/
/-- what the body makes of the arguments: n parameters, l names -/
def fnD (n l : Nat) (tb : TSd) : TFd := fun ds S Q E => ds.length = n ∧ tb (ds.map some ++ List.replicate (l - n) none) S ⟨fun _ S1 => Q .non S1, Q, fun _ _ => False, fun _ _ => False, fun x _ S1 => E x S1⟩
theorem moFn {n l : Nat} {tb : TSd} (h : MoS tb) : MoF (fnD n l tb) := fun ds S Q Q' E E' hq he q => ⟨q.1, h _ _ ⟨fun _ S1 => Q .non S1, Q, fun _ _ => False, fun _ _ => False, fun x _ S1 => E x S1⟩ _ ⟨fun _ _ z => hq _ _ z, hq, fun _ _ z => z, fun _ _ z => z, fun x _ S z => he x S z⟩ q.2⟩
section
variable {P : Program} {w : World} {K : PySem.W.Frag} {mg : Str → Option Value} {base : Heap} {N ps : List Str} {sc : Scope} {vw : Vw} {k : Nat}
/-- some context -/
theorem JD.some (sC : Sc N sc vw) (nd : N.Nodup) (hk : sc.kind = .function) (hr : Room k callerA) : ∃ X W, JD P w K mg base N sc vw k X W := by
  refine ⟨⟨P, w, K, mg, base, callerA, N, {}, fun _ => none, envOfC "" sc 0 0 .none, [], [envOfC "" sc 0 0 .none], [], fun _ => true, true, [], fun _ _ => False⟩, W0, ?_⟩
  exact { prog := rfl, ww := rfl, kk := rfl, gg := rfl, bb := rfl, nn := rfl, ss := rfl, sC := sC, nd := nd, calm := rfl, room := hr, tk := takes0, kd := hk, po := .never, fn := fun _ => rfl, hs := rfl, hf := rfl }
/-- a def's body keeps the promise -/
theorem fnOk_of {x qual : Str} {params : Arguments} {body : List Stmt} {scope : Scope} {f : Addr} {oc dV kV doc pm cdv ct : Value} {od an : Option Addr} {osl : Array (Option Value)} {tb : TSd} (lk : K.lookup f = some ⟨oc, od, .func (PySem.W.fnOf x qual params body scope dV kV doc pm an cdv ct), osl⟩) (hcd : PySem.W.codeIn K cdv qual = true)
    (S : FnScope N ps scope) (sC : Sc N scope vw) (h : ∀ X W, JD P w K mg base N scope vw k X W → JB X W body tb) :
    FnOk P w K mg base (L2.CX P w) (k + 1) f (PySem.W.fnOf x qual params body scope dV kV doc pm an cdv ct) ps (LSp K ps.length (fnD ps.length N.length tb)) := by
  refine fn_of lk hcd S (fun vs H Q E h => ?_) fun A outer s H vs Q E hr hsp => ?_
  · obtain ⟨Z, ds, S, hl, r, _⟩ := h
    rw [← r.length]
    exact hl
  · obtain ⟨Z, ds, S0, hl, r, rs, _, q⟩ := hsp
    have jd : JD P w K mg base N scope vw k (cxOf (L2.CX P w) P w K mg base N qual scope f cdv A outer s H E) fun cls d _ H => E cls d H :=
      { prog := rfl, ww := rfl, kk := rfl, gg := rfl, bb := rfl, nn := rfl, ss := rfl, sC := sC, nd := S.nd, calm := rfl, room := hr, tk := takes_of rfl rfl rfl rfl, kd := S.kind, po := passes_of rfl, fn := fun _ => rfl, hs := rfl, hf := rfl }
    have jb := h _ _ jd
    refine ⟨_, jb.ps, LS.of (K := ⟨K, Z⟩) jb.mo (env := ds.map some ++ List.replicate (N.length - ps.length) none) ?_ rs q ⟨fun _ S1 z σ' H' a _ => z _ H' a .non, fun d S1 z v H' a r => z v H' a r, fun _ _ z => z.elim, fun _ _ z => z.elim, fun x _ S1 z c dx σ' H' a _ rx => z c dx H' a rx⟩⟩
    have z := RE.start r (N.length - ps.length)
    unfold L2.start
    rw [← r.length, hl]
    exact z
theorem moS_of {scope : Scope} {body : List Stmt} {tb : TSd} (S : FnScope N ps scope) (sC : Sc N scope vw) (hr : Room k callerA) (h : ∀ X W, JD P w K mg base N scope vw k X W → JB X W body tb) : MoS tb := by
  obtain ⟨X, W, jd⟩ := JD.some (P := P) (w := w) (K := K) (mg := mg) (base := base) sC S.nd S.kind hr
  exact (h X W jd).mo
end

/-! ### the law -/
/-- a list of at most n ints is handed in, True comes out -/
def spLaw (K : PySem.W.Frag) (n : Nat) : Sp := fun vs H Q _ => ∃ (a : Addr) (ns : List Int), vs = [.ref a] ∧ SqL K H a (ns.map V.int) ∧ ns.length ≤ n ∧ Only H ∧ ∀ H', Q (.bl true) H'
theorem law_sp {K : PySem.W.Frag} {n : Nat} {m : TFd} (mo : MoF m) (h : ∀ ns : List Int, ns.length ≤ n → m [.lst (ns.map D.int)] (fun _ => none) (fun d _ => d = .bl true) fun _ _ => False) : ∀ vs H Q E, spLaw K n vs H Q E → LSp K 1 m vs H Q E := by
  intro vs H Q E hh
  obtain ⟨a, ns, rfl, hS, hl, ho, q⟩ := hh
  have r : Rp ⟨K, fun _ => False⟩ (fun _ => none) H (.lst (ns.map D.int)) (.ref a) := by
    rcases hS with hS | hS
    · exact .lst hS rfl (fun z => z) RpL.ints
    · exact .lstK hS RpL.ints
  refine ⟨fun _ => False, [.lst (ns.map D.int)], fun _ => none, rfl, .cons r .nil, ⟨fun _ _ e => (nomatch e), fun _ hb => False.elim hb⟩, mo _ _ _ _ _ _ (fun d S1 e v H' a2 r2 => ?_) (fun x S1 z => z.elim) (h ns hl)⟩
  subst e
  cases r2
  exact q H'
end Bl

namespace Bl
open PySem PySem.Spec PyProof.Rows L2

/-! ### n.bit_length() -/
def dBits (t : TEd) : TEd := fun env S Q E => t env S (fun d S' => match d with | .int i => Q (.int (Builtin.Int.intBits i : Nat)) S' | _ => False) E
theorem moBits {t : TEd} (h : MoE t) : MoE (dBits t) := fun env S Q Q' E E' hq he q => h _ _ _ _ _ _ (fun d S1 q1 => by
  cases d <;> first | exact hq _ _ q1 | exact q1) he q
section
variable {X : Cx} {W : WX} {o : Expr} {to : TEd} {apos pos : Pos}
theorem je_bits (ho : JE X W o to) (hbase : attributeBase o "bit_length" X.env (eval o X.env) = eval o X.env := by rfl) (hline : (apos.endLine == pos.line) = true := by rfl) : JE X W (.Call (.Attribute o "bit_length" apos) [] [] pos) (dBits to) := by
  refine ⟨PE.imp (pe_bits ho.pe hbase hline) fun σ H Q h => ?_, moBits ho.mo⟩
  obtain ⟨Z, env, S, re, rs, q⟩ := h
  refine LE.of ho.mo re rs q (fun d S1 x H1 q1 a1 r1 => ?_) fun x S1 c dx H1 q1 a1 r1 => q1 c dx H1 a1 r1
  cases d <;> first | exact q1.elim | skip
  cases r1
  exact ⟨_, rfl, q1 _ H1 a1 (.int _)⟩
end

/-! ### sorted, of whole numbers -/
def intsOf : List D → Option (List Int)
  | [] => some []
  | .int i :: ds => (intsOf ds).map (i :: ·)
  | _ => none
theorem ints_rp {K : Kz} {S : Sto} {H : Hp} : ∀ {xs : List D} {bs : List Int} {vs : List V}, RpL K S H xs vs → intsOf xs = some bs → vs = bs.map V.int
  | [], _, _, h, e => by
    cases h
    cases e
    rfl
  | d :: ds, bs, _, h, e => by
    cases h with
    | cons h1 h2 =>
      cases d <;> first | cases e; done | skip
      rename_i b
      unfold intsOf at e
      cases e2 : intsOf ds with
      | none => rw [e2] at e; cases e
      | some cs =>
        rw [e2] at e
        cases e
        cases h1
        rw [ints_rp h2 e2]
        rfl
/-! ### a op= b -/
def fIadd : F2 := fun x y S Q => match x, y with
  | .int i, .int j => Q (.int (i + j)) S
  | .str i, .str j => i.length + j.length ≤ sizeLine ∧ Q (.str (i ++ j)) S
  | _, _ => False
section
variable {X : Cx}
end

/-! ### a try that is run through -/
section
variable {P : Program} {w : World} {K : PySem.W.Frag} {mg : Str → Option Value} {base : Heap} {N : List Str} {sc : Scope} {vw : Vw} {k : Nat} {X : Cx} {W : WX}
theorem JD.nox (d : JD P w K mg base N sc vw k X W) : JD P w K mg base N sc vw k X.nox W0 :=
  { prog := d.prog, ww := d.ww, kk := d.kk, gg := d.gg, bb := d.bb, nn := d.nn, ss := d.ss, sC := d.sC, nd := d.nd, calm := d.calm, room := d.room, tk := takes0, kd := d.kd, po := .never, fn := d.fn, hs := d.hs, hf := d.hf }
theorem js_thru {body : List Stmt} {h₀ : ExceptHandler} {hs : List ExceptHandler} {t : TSd} {pos : Pos} (d : JD P w K mg base N sc vw k X W) (hb : ∀ X2 W2, JD P w K mg base N sc vw k X2 W2 → JB X2 W2 body t) : JS X W (.Try body (h₀ :: hs) [] [] pos) (sThru t sNx) := by
  have jb := hb _ _ d.nox
  refine ⟨PS.imp (ps_try_thru0 jb.ps) fun N σ H h => ?_, moThru jb.mo moNx⟩
  obtain ⟨Z, env, S, re, rs, q⟩ := h
  exact LS.of (K := ⟨X.K, Z⟩) jb.mo re rs q ⟨fun _ _ z => z, fun _ _ z => z, fun _ _ z => z, fun _ _ z => z, fun _ _ _ z => z.elim⟩
end

/-! ### constants of the module -/
/-! ### defs with defaults -/
section
variable {P : Program} {w : World} {K : PySem.W.Frag} {mg : Str → Option Value} {base : Heap} {N ps : List Str} {vw : Vw} {k : Nat}
end
end Bl

namespace Bl
open PySem PySem.Spec PyProof.Rows L2

/-! ### pairs stored from the right -/
theorem blk_fn {env : Env} (h : env.scope.kind = .function) : env.blockKind = .function := by unfold Env.blockKind; rw [h]; rfl
def isStar : Expr → Bool
  | .Starred .. => true
  | _ => false
def swNm (env : Env) (line : Nat) : Expr → Option Str
  | .Name id pos => if env.kindOf id == some .local && pos.line == line then some id else none
  | _ => none
theorem sw_eq {ts vs : List Expr} {kt k2 : Nat} {pt pt2 : Pos} {env : Env} (hk : env.scope.kind = .function) (hl : ts.length = 2 ∨ ts.length = 3) (hv : vs.length = ts.length) (hs : vs.any isStar = false) :
    swappedStores [.Tuple ts kt pt] (.Tuple vs k2 pt2) env = (do
      let names := ts.filterMap (swNm env ((ts.head?.map (·.pos.line)).getD 0))
      if names.length != ts.length || names.eraseDups.length != names.length then return none
      if vs.all (foldedForSure 8) then return none
      if vs.all (constantsAlone 8) then unsupported "assign.tuple-of-constant-expressions:order-of-the-stores"
      return some names) := by
  have e1 : (!(ts.length == 2 || ts.length == 3) || vs.length != ts.length || env.blockKind != .function) = false := by
    rw [blk_fn hk, hv]
    rcases hl with h | h <;> rw [h] <;> rfl
  unfold swappedStores
  show (if (!(ts.length == 2 || ts.length == 3) || vs.length != ts.length || env.blockKind != .function) = true then (pure none : Sem (Option (List Str))) else if vs.any isStar = true then pure none else _) = _
  rw [e1, hs]
  rfl
theorem sw2 {x y : Str} {p q : Expr} {px py pt pt2 : Pos} {kt k2 : Nat} {env : Env} (hk : env.scope.kind = .function) (hx : env.scope.names.lookup x = some .local) (hy : env.scope.names.lookup y = some .local) (hl : (py.line == px.line) = true) (hne : (y == x) = false)
    (hs : [p, q].any isStar = false) (hf : [p, q].all (foldedForSure 8) = false) (hc : [p, q].all (constantsAlone 8) = false) : swappedStores [.Tuple [.Name x px, .Name y py] kt pt] (.Tuple [p, q] k2 pt2) env = pure (some [x, y]) := by
  rw [sw_eq (ts := [.Name x px, .Name y py]) (vs := [p, q]) hk (.inl rfl) rfl hs]
  have kx : env.kindOf x = some .local := hx
  have ky : env.kindOf y = some .local := hy
  have e1 : (some NameKind.local == some NameKind.local) = true := rfl
  have e : [Expr.Name x px, .Name y py].filterMap (swNm env px.line) = [x, y] := by
    simp only [List.filterMap_cons, List.filterMap_nil, swNm, kx, ky, e1, hl, beq_self_eq_true, Bool.and_self, if_true]
  show (do
      let names := [Expr.Name x px, .Name y py].filterMap (swNm env px.line)
      if names.length != 2 || names.eraseDups.length != names.length then return none
      if [p, q].all (foldedForSure 8) then return none
      if [p, q].all (constantsAlone 8) then unsupported "assign.tuple-of-constant-expressions:order-of-the-stores"
      return some names) = _
  rw [e, hf, hc]
  have e5 : [x, y].eraseDups.length = 2 := by simp [List.eraseDups_cons, hne]
  simp only [e5]
  rfl
section
variable {P : Program} {w : World} {K : PySem.W.Frag} {mg : Str → Option Value} {base : Heap} {N ps : List Str} {vw : Vw} {k : Nat} {X : Cx} {W : WX}
/-! ### defs by their data -/
/-- no defaults by places, called by places -/
theorem jf_mkN {x qual : Str} {params : Arguments} {body : List Stmt} {scope : Scope} {kws : List (Str × V)} {f : Addr} {fd : FuncData} {tb : TSd} (F : FunD K x qual params body scope [] kws f fd) (S : FnScope N ps scope) (sC : Sc N scope vw) (mgx : mg x = some (.ref f)) (hr : Room k callerA)
    (hb : ∀ (kV doc pm : Value) (an : Option Addr) (cdv ct : Value) (us : List Value), us.length = ps.length → bindArgs (PySem.W.fnOf x qual params body scope .none kV doc pm an cdv ct) ⟨us, []⟩ = pure (ps.zip us))
    (h : ∀ X W, JD P w K mg base N scope vw k X W → JB X W body tb) : JF P w K mg base x ps.length [] (fun ds _ => ds) (k + 1) (fnD ps.length N.length tb) := by
  obtain ⟨oc, od, dV, kV, doc, pm, an, cdv, ct, osl, rfl, lk, hcd, hD, _⟩ := F.ex
  rcases hD with ⟨_, rfl⟩ | ⟨e, _⟩
  · refine ⟨⟨f, _, ps, fun us _ => us, fun vs _ => vs, mgx, F.kp, fnOk_of lk hcd S sC h, ⟨fun s us ws _ l1 l2 => ?_, fun r _ => r⟩, fun Z S H ds zs vs ws r _ l1 _ => ⟨r, l1⟩⟩, moFn (moS_of S sC hr h)⟩
    exact .of_eq (hb kV doc pm an cdv ct us l1)
  · exact absurd rfl e
/-- no defaults by places, called by places and all keywords -/
theorem jf_mkW {x qual : Str} {params : Arguments} {body : List Stmt} {scope : Scope} {kws : List (Str × V)} {f : Addr} {fd : FuncData} {tb : TSd} (np : Nat) (ks : List Str) (F : FunD K x qual params body scope [] kws f fd) (S : FnScope N ps scope) (sC : Sc N scope vw) (mgx : mg x = some (.ref f)) (hr : Room k callerA)
    (g : {α : Type} → List α → List α → List α) (hg : ∀ {us : List D} {ws : List D}, us.length = np → ws.length = ks.length → (g us ws).length = ps.length)
    (hrel : ∀ {Z S H} {ds zs : List D} {vs ws : List V}, RpL ⟨K, Z⟩ S H ds vs → RpL ⟨K, Z⟩ S H zs ws → ds.length = np → zs.length = ks.length → RpL ⟨K, Z⟩ S H (g ds zs) (g vs ws))
    (hrel2 : ∀ {vs zs : List V} {us ws : List Value}, Vals vs us → Vals zs ws → vs.length = np → zs.length = ks.length → Vals (g vs zs) (g us ws))
    (hb : ∀ (kV doc pm : Value) (an : Option Addr) (cdv ct : Value) (us ws : List Value), us.length = np → ws.length = ks.length → bindArgs (PySem.W.fnOf x qual params body scope .none kV doc pm an cdv ct) ⟨us, ks.zip ws⟩ = pure (ps.zip (g us ws)))
    (h : ∀ X W, JD P w K mg base N scope vw k X W → JB X W body tb) : JF P w K mg base x np ks (fun a b => g a b) (k + 1) (fnD ps.length N.length tb) := by
  obtain ⟨oc, od, dV, kV, doc, pm, an, cdv, ct, osl, rfl, lk, hcd, hD, _⟩ := F.ex
  rcases hD with ⟨_, rfl⟩ | ⟨e, _⟩
  · refine ⟨⟨f, _, ps, fun us ws => if us.length = np ∧ ws.length = ks.length then g us ws else us ++ ws, fun vs ws => if vs.length = np ∧ ws.length = ks.length then g vs ws else vs ++ ws, mgx, F.kp, fnOk_of lk hcd S sC h, ⟨fun s us ws _ l1 l2 => ?_, fun {vs us zs ws} r r2 => ?_⟩, fun Z S H ds zs vs ws r r2 l1 l2 => ⟨?_, hg l1 l2⟩⟩, moFn (moS_of S sC hr h)⟩
    · rw [if_pos ⟨l1, l2⟩]
      exact .of_eq (hb kV doc pm an cdv ct us ws l1 l2)
    · by_cases hh : vs.length = np ∧ zs.length = ks.length
      · rw [if_pos hh, if_pos ⟨by rw [← r.length]; exact hh.1, by rw [← r2.length]; exact hh.2⟩]
        exact hrel2 r r2 hh.1 hh.2
      · rw [if_neg hh, if_neg fun z => hh ⟨by rw [r.length]; exact z.1, by rw [r2.length]; exact z.2⟩]
        exact r.append r2
    · show RpL ⟨K, Z⟩ S H (g ds zs) (if vs.length = np ∧ ws.length = ks.length then g vs ws else vs ++ ws)
      rw [if_pos ⟨by rw [← r.length]; exact l1, by rw [← r2.length]; exact l2⟩]
      exact hrel r r2 l1 l2
  · exact absurd rfl e
/-- with defaults by places; of np values the defaults behind the first j fill up -/
theorem jf_mkF {x qual : Str} {params : Arguments} {body : List Stmt} {scope : Scope} {dvs : List V} {kws : List (Str × V)} {f : Addr} {fd : FuncData} {tb : TSd} (np j : Nat) (dds : List D) (F : FunD K x qual params body scope dvs kws f fd) (S : FnScope N ps scope) (sC : Sc N scope vw) (mgx : mg x = some (.ref f)) (hr : Room k callerA)
    (hd : dvs ≠ []) (hn : np + (dvs.length - j) = ps.length) (hdd : ∀ Z S H, RpL ⟨K, Z⟩ S H dds (dvs.drop j))
    (hb : ∀ (T : Addr) (kV doc pm : Value) (an : Option Addr) (cdv ct : Value) (us its : List Value), us.length = np → its.length = dvs.length →
      ∃ k, bindArgs (PySem.W.fnOf x qual params body scope (.ref T) kV doc pm an cdv ct) ⟨us, []⟩ = seqItems? (.ref T) >>= k ∧ k (some its.toArray) = pure (ps.zip (us ++ its.drop j)))
    (h : ∀ X W, JD P w K mg base N scope vw k X W → JB X W body tb) : JF P w K mg base x np [] (fun ds _ => ds ++ dds) (k + 1) (fnD ps.length N.length tb) := by
  obtain ⟨oc, od, dV, kV, doc, pm, an, cdv, ct, osl, rfl, lk, hcd, hD, _⟩ := F.ex
  rcases hD with ⟨e, _⟩ | ⟨_, T, o, its, m, rfl, lT, oT, rT⟩
  · exact absurd e hd
  · refine ⟨⟨f, _, ps, fun us _ => us ++ its.drop j, fun vs _ => vs ++ dvs.drop j, mgx, F.kp, fnOk_of lk hcd S sC h, ⟨fun s us ws X l1 l2 => ?_, fun {vs us zs ws} r1 r2 => r1.append (rT.drop j)⟩, fun Z S H ds zs vs ws r _ l1 _ => ⟨r.append (hdd _ _ _), ?_⟩⟩, moFn (moS_of S sC hr h)⟩
    · obtain ⟨k, e1, e2⟩ := hb T kV doc pm an cdv ct us its l1 rT.length.symm
      refine BindsTo.of_looks fun M => ?_
      show PySem.W.Looks M s.heap (bindArgs _ ⟨us, []⟩) _
      rw [e1]
      exact looks_items X lT oT (.of_pure e2)
    · rw [List.length_append, l1, (hdd Z S H).length, List.length_drop, hn]
/-- a def's promise, its object kept -/
theorem ok_mkN {x qual : Str} {params : Arguments} {body : List Stmt} {scope : Scope} {kws : List (Str × V)} {f : Addr} {fd : FuncData} {tb : TSd} (F : FunD K x qual params body scope [] kws f fd) (S : FnScope N ps scope) (sC : Sc N scope vw)
    (h : ∀ X W, JD P w K mg base N scope vw k X W → JB X W body tb) : FnOk P w K mg base (L2.CX P w) (k + 1) f fd ps (LSp K ps.length (fnD ps.length N.length tb)) := by
  obtain ⟨oc, od, dV, kV, doc, pm, an, cdv, ct, osl, rfl, lk, hcd, hD, _⟩ := F.ex
  exact fnOk_of lk hcd S sC h
theorem mm {α : Type} {l : List α} {a : α} (j : Nat) (h : l[j]? = some a := by rfl) : a ∈ l := List.mem_of_getElem? h
/-- what the top tells: facts, defs, one thing more -/
structure Tp (fa : List He.Fa) (fn : List He.DefD) (bx : PySem.W.Frag → Bool) (K : PySem.W.Frag) (mg : Str → Option Value) : Prop where
  sy : He.SaysD fa fn K
  bx : bx K = true
  gl : ∀ x, (He.Fa.glo x).ok K = true → mg x = some (.ref (He.ga K x))
  fr : ∀ x, (He.Fa.free x).ok K = true → mg x = none
section
variable {fa : List He.Fa} {fn : List He.DefD} {bx : PySem.W.Frag → Bool}
theorem Tp.mk' {h : Heap} (X : K.In h) (G : h.Ns mainGlobals mg) (c : He.SaysD fa fn K ∧ bx K = true) : Tp fa fn bx K mg := ⟨c.1, c.2, fun _ q => He.glo_ok X G q, fun _ q => He.free_ok X G q⟩
theorem Tp.glo (T : Tp fa fn bx K mg) (i : Nat) {x : Str} (h : fa[i]? = some (.glo x) := by rfl) : mg x = some (.ref (He.ga K x)) := T.gl x (T.sy.fact i h)
theorem Tp.free (T : Tp fa fn bx K mg) (i : Nat) {x : Str} (h : fa[i]? = some (.free x) := by rfl) : mg x = none := T.fr x (T.sy.fact i h)
end
/-- a tuple of the top, of whole numbers -/
def tupI (K : PySem.W.Frag) (x : Str) (ns : List Int) : Bool := He.tupB K x (ns.map He.Dv.int)
theorem gc_tupI {x : Str} {ns : List Int} (hm : mg x = some (.ref (He.ga K x))) (h : tupI K x ns = true) : GC K mg x (.tup (ns.map D.int)) := by
  refine ⟨_, .ref (He.ga K x), hm, rfl, fun Z S H => .tup (He.tupB_ok h H) ?_⟩
  rw [List.map_map]
  exact RpL.ints
end

/-! ### the head's reading -/
def hookX (n : Nat) (fa : List He.Fa) (fn : List He.DefD) (bx : PySem.W.Frag → Bool) : PySem.W.Hook where
  α := Bool × He.AlD
  obs := fun s => (bx (He.frG s.heap.get? (He.asD s.heap.get? n)), He.obsDG n fa fn s.heap.get?)
  val := fun _ => (true, He.valD fn)
  says := fun _ h => ∃ K : PySem.W.Frag, K.In h ∧ He.SaysD fa fn K ∧ bx K = true
  of := fun _ _ e => ⟨_, He.frG_in, congrArg (fun z : Bool × He.AlD => z.2) e, congrArg (fun z : Bool × He.AlD => z.1) e⟩
  keeps := fun _ _ _ ⟨K, hK, c⟩ k => ⟨K, PySem.W.Frag.In.keeps hK k, c⟩
def obX (n : Nat) (fa : List He.Fa) (fn : List He.DefD) (bx : PySem.W.Frag → Bool) (s : PySem.W.SharedT) : Bool × He.AlD := (bx (He.frG (HandSHeadRun.getT s) (He.asD (HandSHeadRun.getT s) n)), He.obsDG n fa fn (HandSHeadRun.getT s))
theorem obX_eq {n : Nat} {fa : List He.Fa} {fn : List He.DefD} {bx : PySem.W.Frag → Bool} (s : PySem.W.SharedT) : obX n fa fn bx s = (hookX n fa fn bx).obs s.abs := by
  have e : HandSHeadRun.getT s = s.abs.heap.get? := funext (HandSHeadRun.getT_eq s)
  unfold obX
  rw [e]
  rfl
/-- the end, what leaves a call told of each world -/
theorem walk_ofX {l : PySem.W.OpenLaw} {n k : Nat} {q : Program} {loose : List Str} {XP : (Str → Option Value) → Heap → Prop} {YP : World → Heap → Prop} {d : DefRec} {x : Str} (hn : l.most = some n) (hn2 : n ≤ sizeLine) (hdf : d.params.defaults = []) (hr : Room k callerA)
    (F : ∀ (w : World) (mg : Str → Option Value) (fa : Addr) (h : Heap), YP w h → h.Ns mainGlobals mg → mg d.name = some (.ref fa) → ∃ (K : PySem.W.Frag) (fd : FuncData), K.In h ∧ (∀ (s : Shared) (u : Value), BindsTo s fd ⟨[u], []⟩ [(x, u)]) ∧ ∀ base : Heap, K.In base → base.Ns mainGlobals mg → FnOk l.prog w K mg base (L2.CX l.prog w) k fa fd [x] (spLaw K n)) : PySem.W.WalkO q loose XP YP l.row.toRowW d [] (fun f vs => PySem.call f vs) := by
  refine Att.attach_call hn hdf fun w s0 s1 mg mb fa o pm cd doc a vs ns G Y ho hd hcd hmg hobj hints hlen hg => ?_
  obtain ⟨K, fd, KX, hb, hF⟩ := F w mg fa _ Y G.T.g hmg
  refine law_call KX G.T.g G.T.b G.T.builtins G.T.nolimit hg hobj hints (Nat.le_trans hlen hn2) hr hF hb (fun H hO hS => ⟨a, ns, rfl, hS, hlen, hO, fun _ => rfl⟩) fun H e s' z => ?_
  obtain ⟨_, _, _, _, _, _, _, _, _, _, _, _, z⟩ := z
  exact z
end Bl

namespace Bl
open PySem PySem.Spec PyProof.Rows L2
/-! ### monotony by shape -/
end Bl

namespace Bl
open PySem PySem.Spec PyProof.Rows L2
/-! ### within an except suite: no calls of defs, nothing is raised -/
structure JC0 (K : PySem.W.Frag) (mg : Str → Option Value) (N : List Str) (sc : Scope) (vw : Vw) (X : Cx) : Prop where
  kk : X.K = K
  gg : X.mg = mg
  nn : X.N = N
  ss : X.env.scope = sc
  sC : Sc N sc vw
  nd : N.Nodup
section
variable {K : PySem.W.Frag} {mg : Str → Option Value} {N : List Str} {sc : Scope} {vw : Vw} {X : Cx} {W : WX}
theorem JC0.gl (c : JC0 K mg N sc vw X) {x : Str} (h : x ∈ vw.gs) : Gl X x := by
  show X.env.scope.names.lookup x = some .globalImplicit
  rw [c.ss]
  exact (c.sC.gl x h).1
end
/-! ### isinstance of the one that is held -/
def vOfU : Value → V
  | .ref C => .ref C
  | .type T => .ty T
  | _ => .non
section
variable {K : PySem.W.Frag} {mg : Str → Option Value} {N : List Str} {sc : Scope} {vw : Vw} {X : Cx} {W : WX}
/-- the suite's context: a of the class D -/
structure JX (K : PySem.W.Frag) (mg : Str → Option Value) (N : List Str) (sc : Scope) (vw : Vw) (a Dc : Addr) (X : Cx) : Prop extends JC0 K mg N sc vw X where
  xc : ∃ (X0 : Cx) (oe : Obj) (pn : List (Addr × Obj)), X = X0.suite a ((a, oe) :: pn) ∧ Zc (.ref Dc) none oe ∧ ∃ vs, oe.data = .fields vs
/-- the classes by their names, as arguments -/
structure PCls (X : Cx) (es : List Expr) (us : List Value) : Prop where
  pa : ∃ ta, PA X es ta ∧ (∀ σ H (Q : List V → Hp → Prop), Q (us.map vOfU) H → ta σ H Q)
  rel : ∀ ws, Vals (us.map vOfU) ws → ws = us
end

/-! ### try, except C as n -/
def ndS (i : Nat) (N : Nd) : Nd := ⟨fun e s => N.nx (e.set i none) s, N.rt, fun e s => N.bk (e.set i none) s, fun e s => N.ct (e.set i none) s, fun _ _ _ => False⟩
/-- sb: of each class that may fly, whether the clause takes it -/
def ndT (sb : Str → Option Bool) (i : Nat) (u : Addr → Str → TSd) (N : Nd) : Nd := ⟨N.nx, N.rt, N.bk, N.ct, fun x e S1 => match sb x.nm with
  | some true => x.fs = [] ∧ ∀ a, u a x.nm (e.set i (some (.obj a))) S1 (ndS i N)
  | some false => N.ex x e S1
  | none => False⟩
def sTryAs (t : TSd) (sb : Str → Option Bool) (i : Nat) (u : Addr → Str → TSd) : TSd := fun env S N => t env S (ndT sb i u N)
section
variable {P : Program} {w : World} {K : PySem.W.Frag} {mg : Str → Option Value} {base : Heap} {N : List Str} {sc : Scope} {vw : Vw} {k : Nat} {X : Cx} {W : WX}
end

/-! ### what the head tells of exceptions -/
/-- a class's value by its name -/
def clU (K : PySem.W.Frag) (x : Str) : Value := match PySem.W.nsIn K mainGlobals x with
  | some (some (.ref C)) => .ref C
  | _ => match bootBuiltins x with
    | some (.type T) => .type T
    | _ => .none
def kitB (K : PySem.W.Frag) (D : Str) (xs : List Str) (b : Bool) : Bool := decide (PySem.W.kitAny K (.ref (He.ga K D)) (xs.map (clU K)) = some b)
/-! ### keyword-only defaults that fill up -/
section
variable {P : Program} {w : World} {K : PySem.W.Frag} {mg : Str → Option Value} {base : Heap} {N ps : List Str} {vw : Vw} {k : Nat}
end

section
variable {P : Program} {w : World} {K : PySem.W.Frag} {mg : Str → Option Value} {base : Heap} {N : List Str} {sc : Scope} {vw : Vw} {k : Nat} {X : Cx} {W : WX}
/-- raise C('..'), C an own class under ValueError -/
theorem js_raiseV (c : JC P w K mg base N sc vw k X W) {x m : Str} {j : Nat} {p p2 p3 pos : Pos} (hx : x ∈ vw.gs) (hg : (He.Fa.glo x).ok K = true) (he : (He.Fa.exc x).ok K = true) (hm : mg x = some (.ref (He.ga K x))) : JS X W (.Raise (some (.Call (.Name x p) [.Constant (.str m) j p2] [] p3)) none pos) (sRaise x) := by
  obtain ⟨h1, h2, h3, h4⟩ := He.exc_ok he
  have e : PySem.W.nsIn K mainGlobals x = some (some (.ref (He.ga K x))) := He.eqO_ok hg
  have hk := c.kk
  subst hk
  exact js_raise c.calm c.tk e (pmk_own PySem.F.excBase_ValueError h1 (by rw [c.gg]; exact hm) h2 (raises_own h3 h4) (c.gl hx) (c.sC.gl x hx).2.2)
end
theorem all_at {l : List (PySem.W.Frag → Bool)} {K : PySem.W.Frag} (h : (l.all fun f => f K) = true) (i : Nat) {f : PySem.W.Frag → Bool} (e : l[i]? = some f) : f K = true := List.all_eq_true.mp h f (List.mem_of_getElem? e)
end Bl

/-! a, *b, c = xs -/
namespace Bl
open PySem PySem.Spec PyProof.Rows L2
section
variable {prog : Program} {w : World} {A : Around} {E : Value → Shared → Prop} {s : Shared}
theorem walks_off {I ax : Addr} {n : Nat} {P : Nat → Value → Prop} {St : Nat → Heap → Prop} (W : Walks prog w A I [I, ax] [I] n P St) (i : Nat) (hi : i ≤ n) : Walks prog w A I [I, ax] [I] (n - i) (fun j v => P (i + j) v) (fun j h => St (i + j) h) where
  sub := W.sub
  frame := fun j h h' st k => W.frame (i + j) h h' st k
  item := fun j s Q E hj st hQ => W.item (i + j) s Q E (by omega) st fun v h' tk hp st' k => hQ v h' tk hp st' k
  done := fun s Q E st hQ => W.done s Q E (by have z : i + (n - i) = n := by omega
                                              rw [z] at st; exact st) hQ
  self := fun j s Q E st hQ => W.self (i + j) s Q E st hQ
theorem collect_off {T : String} (hT : T = "list_iterator" ∨ T = "tuple_iterator") {I ax : Addr} {items : Array Value} {St : Nat → Heap → Prop} (W : Walks prog w A.in1 I [I, ax] [I] items.size (fun j v => items[j]? = some v) St) (ht : ∀ j (s : Shared), St j s.heap → s.TypeIs (.ref I) T) (i : Nat) (hi : i ≤ items.size) (st : St i s.heap) (hI : I < s.heap.objs.size) (hax : ax < s.heap.objs.size) (hsz : items.size ≤ sizeLine) {Q : List Value → Shared → Prop}
    (hQ : ∀ h' tk, (∀ b o, b ≠ I → s.heap.get? b = some o → h'.get? b = some o) → Q (items.toList.drop i) { s with heap := h', toks := tk }) : wpAny (model prog w) A (collect (.ref I)) Q E s := by
  refine wpAny_collect_iter (T := T) (by rcases hT with h | h <;> simp [h]) (walks_off W i hi).toS (fun j s h => ht _ s h) st (fun b hb => ?_) (List.mem_cons_self ..) (fun s' acc hm ha => ?_) (by omega)
  · rcases List.mem_cons.mp hb with rfl | hb
    · exact hI
    · rw [List.mem_singleton.mp hb]; exact hax
  · have e : acc.toList = items.toList.drop i := by
      apply List.ext_getElem?
      intro j
      rw [List.getElem?_drop, Array.getElem?_toList, Array.getElem?_toList]
      by_cases hj : j < acc.size
      · have h1 : acc[j]? = some acc[j] := by simp [hj]
        rw [h1, ha.2 j _ h1]
      · have := ha.1
        rw [Array.getElem?_eq_none (by omega), Array.getElem?_eq_none (by omega)]
    rw [e, Moved.eq_with hm]
    exact hQ _ _ fun b o hb h => hm.heap b o (fun z => hb (List.mem_singleton.mp z)) h
theorem star_rest {I : Addr} {items : Array Value} {i aft : Nat} {Q : List Value → Shared → Prop} (hle : i + aft ≤ items.size) (hsz : items.size ≤ sizeLine)
    (hc : ∀ {R : List Value → Shared → Prop}, (∀ h' tk, (∀ b o, b ≠ I → s.heap.get? b = some o → h'.get? b = some o) → R (items.toList.drop i) { s with heap := h', toks := tk }) → wpAny (model prog w) A (collect (.ref I)) R E s)
    (hQ : ∀ (h' h'' : Heap) tk (p : Addr), (∀ b o, b ≠ I → s.heap.get? b = some o → h'.get? b = some o) → h'' = h'.push { cls := .type "list", data := .seq ((items.toList.drop i).take (items.size - i - aft)).toArray } → p = h'.objs.size →
      Q (items.toList.take i ++ [.ref p] ++ (items.toList.drop i).drop (items.size - i - aft)) { s with heap := h'', toks := tk }) :
    wpAny (model prog w) A (do
      let rest ← holding (items.toList.take i) (collect (.ref I))
      let after := i + 1 + aft - 1 - i
      if rest.length < after then
        rule "unpack.star.too-few"
        raiseError "ValueError" s!"not enough values to unpack (expected at least {i + 1 + aft - 1}, got {i + rest.length})"
      let mid := rest.length - after
      return (items.toList.take i) ++ [← newList (rest.take mid)] ++ rest.drop mid : Sem (List Value)) Q E s := by
  refine wpAny_bind (wpAny_holding (hc fun h' tk hk => ?_))
  have e1 : i + 1 + aft - 1 - i = aft := by omega
  have e2 : (items.toList.drop i).length = items.size - i := by simp
  dsimp only
  rw [e1, e2]
  rw [if_neg (by omega)]
  show wpAny _ _ (newList ((items.toList.drop i).take (items.size - i - aft)) >>= _) _ _ _
  refine wpAny_bind ?_
  unfold newList
  refine wpAny_newObj_type ?_ (by show (((items.toList.drop i).take (items.size - i - aft)).toArray).size ≤ _; simp only [List.size_toArray, List.length_take, List.length_drop, Array.length_toList]; omega)
  exact wpAny_pure (hQ h' _ tk _ hk rfl rfl)

def starQ (s : Shared) (items : Array Value) (i aft : Nat) (Q : List Value → Shared → Prop) : Prop := ∀ (h' h'' : Heap) (tk : Nat) (p : Addr), (∀ b o, s.heap.get? b = some o → h'.get? b = some o) → h'' = h'.push { cls := .type "list", data := .seq ((items.toList.drop i).take (items.size - i - aft)).toArray } → p = h'.objs.size →
      Q (items.toList.take i ++ [.ref p] ++ (items.toList.drop i).drop (items.size - i - aft)) { s with heap := h'', toks := tk }
theorem star_itemsL {l : Addr} {items : Array Value} {i aft : Nat} {Q : List Value → Shared → Prop} (hh : A.handled = none) (hl : s.heap.IsList l items) (hle : i + aft ≤ items.size) (hsz : items.size ≤ sizeLine) (hQ : starQ s items i aft Q) : wpAny (model prog w) A (unpackItems (.ref l) (i + 1 + aft) (some i)) Q E s := by
  have hlt : l ≠ s.heap.objs.size := by obtain ⟨o, ho, _⟩ := hl; exact Nat.ne_of_lt (Heap.lt_size ho)
  have hl2 : l < s.heap.objs.size := by obtain ⟨o, ho, _⟩ := hl; exact Heap.lt_size ho
  unfold unpackItems
  refine wpAny_bind ?_
  unfold notIterableAtAll
  refine wpAny_bind (wpAny_specialOf hl.typeIs slot_list_iter.lookup ?_)
  refine wpAny_pure ?_
  simp only [Bool.false_eq_true, if_false]
  refine wpAny_bind (wpAny_holding (wpAny_pyIter_list hl ?_))
  refine wpAny_bind (wpAny_holding (PySem.W.kun_draw hlt i 0 _ _ ⟨_, Heap.get?_push_size _ rfl, rfl, rfl⟩ (hl.push _) (by omega) fun h₁ hit₁ hs₁ => ?_))
  rw [Nat.zero_add] at hit₁
  rw [List.drop_zero]
  have e0 : (items.toList.take i).length = i := by rw [List.length_take, Array.length_toList]; omega
  rw [e0, if_neg (Nat.lt_irrefl i)]
  have hl₁ : h₁.IsList l items := (hl.push _).extBut hs₁.extBut hlt
  refine star_rest (I := s.heap.objs.size) hle hsz (fun hR => ?_) fun h' h'' tk p hk e1 e2 => hQ h' h'' tk p (fun b o hb => hk b o (Nat.ne_of_lt (Heap.lt_size hb)) (hs₁.extBut b o (Nat.ne_of_lt (Heap.lt_size hb)) (Heap.get?_push_of_some _ hb))) e1 e2
  obtain ⟨oi, hoi, _⟩ := id hit₁
  obtain ⟨ol, hol, _⟩ := id hl₁
  exact collect_off (.inl rfl) (Walks.list (A := A.in1) hh _ l hlt items) (fun j s h => let ⟨o, ho, hc, _⟩ := h.1; ⟨o, ho, hc⟩) i (by omega) ⟨hit₁, hl₁⟩ (Heap.lt_size hoi) (Heap.lt_size hol) hsz hR
theorem star_itemsT {l : Addr} {items : Array Value} {i aft : Nat} {Q : List Value → Shared → Prop} (hh : A.handled = none) (hl : IsTup s.heap l items) (hle : i + aft ≤ items.size) (hsz : items.size ≤ sizeLine) (hQ : starQ s items i aft Q) : wpAny (model prog w) A (unpackItems (.ref l) (i + 1 + aft) (some i)) Q E s := by
  have hlt : l ≠ s.heap.objs.size := by obtain ⟨o, ho, _⟩ := hl; exact Nat.ne_of_lt (Heap.lt_size ho)
  unfold unpackItems
  refine wpAny_bind ?_
  unfold notIterableAtAll
  refine wpAny_bind (wpAny_specialOf hl.typeIs slot_tuple_iter.lookup ?_)
  refine wpAny_pure ?_
  simp only [Bool.false_eq_true, if_false]
  refine wpAny_bind (wpAny_holding (iter_tuple hl ?_))
  refine wpAny_bind (wpAny_holding (draw_tuple hlt i 0 _ _ ⟨_, Heap.get?_push_size _ rfl, rfl, rfl⟩ (hl.push _) (by omega) fun h₁ hit₁ hs₁ => ?_))
  rw [Nat.zero_add] at hit₁
  rw [List.drop_zero]
  have e0 : (items.toList.take i).length = i := by rw [List.length_take, Array.length_toList]; omega
  rw [e0, if_neg (Nat.lt_irrefl i)]
  have hl₁ : IsTup h₁ l items := (hl.push _).extBut hs₁.extBut hlt
  refine star_rest (I := s.heap.objs.size) hle hsz (fun hR => ?_) fun h' h'' tk p hk e1 e2 => hQ h' h'' tk p (fun b o hb => hk b o (Nat.ne_of_lt (Heap.lt_size hb)) (hs₁.extBut b o (Nat.ne_of_lt (Heap.lt_size hb)) (Heap.get?_push_of_some _ hb))) e1 e2
  obtain ⟨oi, hoi, _⟩ := id hit₁
  obtain ⟨ol, hol, _⟩ := id hl₁
  exact collect_off (.inr rfl) (Walks.tuple (A := A.in1) hh _ l hlt items) (fun j s h => let ⟨o, ho, hc, _⟩ := h.1; ⟨o, ho, hc⟩) i (by omega) (show Heap.IsTupleIter h₁ _ l i ∧ Heap.IsTuple h₁ l items from ⟨hit₁, hl₁⟩) (Heap.lt_size hoi) (Heap.lt_size hol) hsz hR
end
/-- the items as they are stored: i ahead, those between as a list, aft behind -/
def starD (i aft : Nat) (ds : List D) : List D := ds.take i ++ [.lst ((ds.drop i).take (ds.length - i - aft))] ++ (ds.drop i).drop (ds.length - i - aft)
def starV (i aft : Nat) (p : Addr) (vs : List V) : List V := vs.take i ++ [.ref p] ++ (vs.drop i).drop (vs.length - i - aft)
def LGstar (K : PySem.W.Frag) (i aft : Nat) (gs : List Tg) : TG := fun v σ H Q => ∃ Z env S d ds env', RE ⟨K, Z⟩ S H env σ ∧ RS ⟨K, Z⟩ S H ∧ Rp ⟨K, Z⟩ S H d v ∧ itemsOf S d = some ds ∧ i + aft ≤ ds.length ∧ asgL S gs (starD i aft ds) env = some env' ∧
  ∀ σ' H', Aft ⟨K, Z⟩ S H S H' → RE ⟨K, Z⟩ S H' env' σ' → Q σ' H'
section
variable {X : Cx} {W : WX}
theorem vals_star {i aft : Nat} {p : Addr} {vs : List V} {its : List Value} (r : Vals vs its) : Vals (starV i aft p vs) (its.take i ++ [.ref p] ++ (its.drop i).drop (its.length - i - aft)) := by
  unfold starV
  rw [r.length]
  exact ((r.take i).append (.cons (show L2.RelV (.ref p) (.ref p) from rfl) .nil)).append ((r.drop i).drop _)
theorem rpl_star {K : Kz} {S : Sto} {H : Hp} {i aft : Nat} {p : Addr} {ds : List D} {vs : List V} (rs : RS K S H) (hp : H p = none) (r : RpL K S H ds vs) : Aft K S H S (upd H p (.lst ((vs.drop i).take (vs.length - i - aft)))) ∧ RpL K S (upd H p (.lst ((vs.drop i).take (vs.length - i - aft)))) (starD i aft ds) (starV i aft p vs) := by
  unfold starD starV
  rw [r.length]
  obtain ⟨a, rn⟩ := Rp.newL rs hp ((r.drop i).take (vs.length - i - aft))
  refine ⟨a, ?_⟩
  have r2 := RpL.step a.st rs _ _ r
  exact ((r2.take i).append (.cons rn .nil)).append ((r2.drop i).drop _)
theorem pg_star {es es' : List Expr} {k i aft : Nat} {gs : List Tg} {pos : Pos} (hc : X.calm = true) (h : JGs X es' gs) (hm : (assignEach es X.env).map (·.2) = (assignEach es' X.env).map (·.2)) (hn : (assignEach es X.env).length = i + 1 + aft) (hst : (assignEach es X.env).findIdx? (·.1) = some i) : PG X (.Tuple es k pos) (LGstar X.K i aft gs) := by
  refine ⟨fun pins s σ H v u Q I r hw => ?_⟩
  obtain ⟨Z, env, S, d, ds, env', re, rs, rp, e1, hle, e2, q⟩ := hw
  rw [PyProof.Rows.assign_Tuple]
  refine wpAny_bind (wpAny_standAt ?_)
  unfold unpack
  rw [hn, hst]
  have fin : ∀ (vs : List V) (its : List Value), vs.length ≤ sizeLine → RpL ⟨X.K, Z⟩ S H ds vs → Vals vs its → starQ s its.toArray i aft fun us s1 => wpAny (model X.prog X.w) X.A (assignInOrder ((assignEach es X.env).map (·.2)) us) (fun _ s' => ∃ σ' H', Inv X pins σ' H' s' ∧ Q σ' H') X.xe s1 := by
    intro vs its hz rl rv h' h'' tk p hk eh ep
    have I1 : Inv X pins σ H { s with heap := h', toks := s.toks } := I.kept hk
    have hp : H p = none := by rw [ep]; exact I1.hok.fresh (Nat.le_refl _)
    obtain ⟨a, r2⟩ := rpl_star (i := i) (aft := aft) rs hp rl
    have I2 : Inv X pins σ (upd H p (.lst ((vs.drop i).take (vs.length - i - aft)))) { s with heap := h'', toks := tk } := by
      rw [eh, ep]
      refine I1.laid (t' := tk) (fun b u e => Heap.get?_push_of_some _ e) (Nat.le_refl _) ⟨?_, (its.drop i).take (its.length - i - aft), 0, ?_, ?_⟩
      · rw [List.length_take, List.length_drop]; omega
      · rw [rv.length]; exact (rv.drop i).take _
      · have := Heap.get?_push_size h' (o := { cls := .type "list", data := .seq ((its.toArray.toList.drop i).take (its.toArray.size - i - aft)).toArray }) rfl
        simpa using this
    rw [hm]
    refine h.pg.run pins _ σ _ (starV i aft p vs) _ Q I2 ?_ ⟨Z, env, S, _, env', re.step a.st rs, a.rs, r2, e2, fun σ' r' _ => q σ' _ a r'⟩
    have := vals_star (i := i) (aft := aft) (p := p) rv
    simpa using this
  have fl : ∀ (a : Addr) (vs : List V), SqL X.K H a vs → RpL ⟨X.K, Z⟩ S H ds vs → wpAny (model X.prog X.w) X.A (do assignInOrder ((assignEach es X.env).map (·.2)) (← holding [.ref a] (unpackItems (.ref a) (i + 1 + aft) (some i)))) (fun _ s' => ∃ σ' H', Inv X pins σ' H' s' ∧ Q σ' H') X.xe s := by
    intro a vs h1 rl
    obtain ⟨its, rv, pl, hz⟩ := I.list h1
    have l1 := rl.length
    have l2 := rv.length
    exact wpAny_bind (wpAny_holding (star_itemsL (I.ok.hd hc) pl.isList (by simp only [List.size_toArray]; omega) (by simp only [List.size_toArray]; omega) (fin vs its hz rl rv)))
  unfold itemsOf at e1
  cases rp with
  | tup h1 rl =>
    cases e1
    cases r
    obtain ⟨its, rv, ht, hz⟩ := I.tuple h1
    have l1 := rl.length
    have l2 := rv.length
    exact wpAny_bind (wpAny_holding (star_itemsT (I.ok.hd hc) ht (by simp only [List.size_toArray]; omega) (by simp only [List.size_toArray]; omega) (fin _ its hz rl rv)))
  | lst h1 _ _ rl =>
    cases e1
    cases r
    exact fl _ _ (.inl h1) rl
  | lstK h1 rl =>
    cases e1
    cases r
    exact fl _ _ (SqL.ofK h1) rl
  | ref a =>
    obtain ⟨vs, h1, rl⟩ := rs.at_ a ds e1
    cases r
    exact fl _ _ (SqL.of h1) rl
  | _ => cases e1
end
/-- a, *b, c = x -/
def starK (i aft : Nat) (gs : List Tg) (d : D) (env : Ev) (S : Sto) (nx : Ev → Sto → Prop) : Prop := match itemsOf S d with
  | some ds => i + aft ≤ ds.length ∧ match asgL S gs (starD i aft ds) env with
    | some e => nx e S
    | none => False
  | none => False
def sStar (te : TEd) (i aft : Nat) (gs : List Tg) : TSd := fun env S N => te env S (fun d S1 => starK i aft gs d env S1 N.nx) fun x S1 => N.ex x env S1
theorem moStar {te : TEd} {i aft : Nat} {gs : List Tg} (h : MoE te) : MoS (sStar te i aft gs) := fun env S A B l q => h _ _ _ _ _ _ (fun d S1 q1 => by
  unfold starK at q1 ⊢
  split at q1 <;> first | exact q1.elim | skip
  refine ⟨q1.1, ?_⟩
  have q2 := q1.2
  split at q2 <;> first | exact q2.elim | exact l.nx _ _ q2) (fun x S1 q1 => l.ex _ _ _ q1) q
theorem js_star {X : Cx} {W : WX} {e : Expr} {te : TEd} {es es' : List Expr} {k i aft : Nat} {gs : List Tg} {tpos pos : Pos} (hc : X.calm = true) (he : JE X W e te) (h : JGs X es' gs) (hn : (assignEach es X.env).length = i + 1 + aft := by rfl) (hst : (assignEach es X.env).findIdx? (·.1) = some i := by rfl) (hm : (assignEach es X.env).map (·.2) = (assignEach es' X.env).map (·.2) := by rfl)
    (hs : swapsWithSole [.Tuple es k tpos] e pos.line X.env = pure false := by rfl) (hw : swappedStores [.Tuple es k tpos] e X.env = pure none := by rfl) (h1 : (assignEach [.Tuple es k tpos] X.env).map (·.2) = [assign (.Tuple es k tpos) X.env] := by rfl) :
    JS X W (.Assign [.Tuple es k tpos] e pos) (sStar te i aft gs) := by
  refine ⟨PS.imp (ps_asg he.pe (pg_star hc h hm hn hst) hs hw h1) fun N σ H h => ?_, moStar he.mo⟩
  obtain ⟨Z, env, S, re, rs, q⟩ := h
  refine LE.of he.mo re rs q (fun d S1 v H1 q1 a1 r1 => ?_) fun x S1 c dx H1 q1 a1 r1 => exS re rs q1 a1 r1
  unfold starK at q1
  split at q1 <;> first | exact q1.elim | skip
  rename_i ds ed
  obtain ⟨hle, q2⟩ := q1
  split at q2 <;> first | exact q2.elim | skip
  rename_i e1 ee
  exact ⟨Z, env, S1, d, ds, e1, re.step a1.st rs, a1.rs, r1, ed, hle, ee, fun σ' H2 a2 r' => q2 σ' H2 (a1.trans a2) r'⟩
end Bl

/-! enumerate, zip, reversed over lists and tuples -/
namespace Bl
open PySem PySem.Spec PyProof.Rows L2
section
variable {prog : Program} {w : World} {A : Around} {E : Value → Shared → Prop} {s : Shared}
end
/-! ### the same over data -/
def enumD (ds : List D) : List D := (List.range ds.length).zipWith (fun (i : Nat) d => D.tup [.int i, d]) ds
def zipD (xs ys : List D) : List D := xs.zipWith (fun x y => D.tup [x, y]) ys
def seqD : D → Option (List D)
  | .tup ds => some ds
  | .lst ds => some ds
  | _ => none
def iEnumD (t : TEd) : TAd := fun env S Q E => t env S (fun d S1 => match seqD d with | some ds => Q (enumD ds) S1 | none => False) E
def iRevD (t : TEd) : TAd := fun env S Q E => t env S (fun d S1 => match seqD d with | some ds => Q ds.reverse S1 | none => False) E
def zipK (x y : D) (S : Sto) (Q : List D → Sto → Prop) : Prop := match x, y with
  | .tup xs, .tup ys => Q (zipD xs ys) S
  | .lst xs, .lst ys => Q (zipD xs ys) S
  | _, _ => False
def iZipD (t u : TEd) : TAd := fun env S Q E => t env S (fun x S1 => u env S1 (fun y S2 => zipK x y S2 Q) E) E
theorem moEnumD {t : TEd} (ht : MoE t) : MoE (iEnumD t) := fun env S Q Q' E E' h he q => ht _ _ _ _ _ _ (fun d S1 q1 => by
  split at q1 <;> first | exact h _ _ q1 | exact q1.elim) he q
theorem moRevD {t : TEd} (ht : MoE t) : MoE (iRevD t) := fun env S Q Q' E E' h he q => ht _ _ _ _ _ _ (fun d S1 q1 => by
  split at q1 <;> first | exact h _ _ q1 | exact q1.elim) he q
theorem moZipD {t u : TEd} (ht : MoE t) (hu : MoE u) : MoE (iZipD t u) := fun env S Q Q' E E' h he q => ht _ _ _ _ _ _ (fun x S1 q1 => hu _ _ _ _ _ _ (fun y S2 q2 => by
  unfold zipK at q2 ⊢
  split at q2 <;> first | exact h _ _ q2 | exact q2.elim) he q1) he q
theorem Rp.pair {K : Kz} {S : Sto} {H : Hp} {T : Addr} {x y : V} {dx dy : D} (rs : RS K S H) (hT : H T = none) (r1 : Rp K S H dx x) (r2 : Rp K S H dy y) : Aft K S H S (upd H T (.tup [x, y])) ∧ Rp K S (upd H T (.tup [x, y])) (.tup [dx, dy]) (.ref T) :=
  Rp.newT rs hT (.cons r1 (.cons r2 .nil))
section
variable {P : Program} {w : World} {K : PySem.W.Frag} {mg : Str → Option Value} {base : Heap} {N : List Str} {sc : Scope} {vw : Vw} {k : Nat} {X : Cx} {W : WX}
end
end Bl

/-! {"..": x, ..}.get(k, y) -/
namespace Bl
open PySem PySem.Spec PyProof.Rows L2
section
variable {K : Kz} {S : Sto} {H : Hp} {p : Addr} {ks ls : List (Key × V)}
mutual
theorem Rp.dk (hp : H p = some (.dK ks)) : ∀ (d : D) (v : V), Rp K S H d v → Rp K S (upd H p (.dK ls)) d v
  | .non, _, h => by cases h; exact .non
  | .bl b, _, h => by cases h; exact .bl b
  | .int i, _, h => by cases h; exact .int i
  | .str x, _, h => by cases h; exact .str x
  | .tup ds, _, h => by
    cases h with
    | tup hs ha =>
      refine .tup ?_ (RpL.dk hp ds _ ha)
      rcases hs with (h | ⟨o, h⟩) | h
      · exact .inl (.inl (by rw [upd_ne (ne_of h hp (by intro z; cases z))]; exact h))
      · exact .inl (.inr ⟨o, by rw [upd_ne (ne_of h hp (by intro z; cases z))]; exact h⟩)
      · exact .inr h
  | .lst ds, _, h => by
    cases h with
    | lst hs hn hz ha =>
      refine .lst ?_ hn hz (RpL.dk hp ds _ ha)
      rcases hs with h | ⟨o, h⟩
      · exact .inl (by rw [upd_ne (ne_of h hp (by intro z; cases z))]; exact h)
      · exact .inr ⟨o, by rw [upd_ne (ne_of h hp (by intro z; cases z))]; exact h⟩
    | lstK hs ha => exact .lstK hs (RpL.dk hp ds _ ha)
  | .ref a, _, h => by cases h; exact .ref a
  | .obj a, _, h => by cases h; exact .obj a
theorem RpL.dk (hp : H p = some (.dK ks)) : ∀ (ds : List D) (vs : List V), RpL K S H ds vs → RpL K S (upd H p (.dK ls)) ds vs
  | [], _, h => by cases h; exact .nil
  | d :: ds, _, h => by
    cases h with
    | cons h1 h2 => exact .cons (Rp.dk hp d _ h1) (RpL.dk hp ds _ h2)
end
theorem RS.dk (hp : H p = some (.dK ks)) (rs : RS K S H) : RS K S (upd H p (.dK ls)) := by
  refine ⟨fun a ds e => ?_, fun b hb => ?_⟩
  · obtain ⟨vs, q, r⟩ := rs.at_ a ds e
    exact ⟨vs, by rw [upd_ne (ne_of q hp (by intro z; cases z))]; exact q, RpL.dk hp _ _ r⟩
  · obtain ⟨n, vs, q⟩ := rs.hid b hb
    exact ⟨n, vs, by rw [upd_ne (ne_of q hp (by intro z; cases z))]; exact q⟩
end
/-- a display with texts as keys: the values -/
def lookD : List Str → List D → Str → Option D
  | k :: ks, d :: ds, x => if x = k then some d else lookD ks ds x
  | _, _, _ => none
def dGetL (ks : List Str) (ta : TAd) (ty tx : TEd) : TEd := fun env S Q E => ta env S (fun ds S1 => ds.length = ks.length ∧ ty env S1 (fun y S2 => tx env S2 (fun z S3 => match y with
  | .str x => Q ((lookD ks ds x).getD z) S3
  | _ => False) E) E) E
theorem moGetL {ks : List Str} {ta : TAd} {ty tx : TEd} (h1 : MoE ta) (h2 : MoE ty) (h3 : MoE tx) : MoE (dGetL ks ta ty tx) := fun env S Q Q' E E' h he q => h1 _ _ _ _ _ _ (fun ds S1 q1 => ⟨q1.1, h2 _ _ _ _ _ _ (fun y S2 q2 => h3 _ _ _ _ _ _ (fun z S3 q3 => by
  cases y <;> first | exact h _ _ q3 | exact q3) he q2) he q1.2⟩) he q
/-- the pairs of a display: constant keys, values -/
structure PDs (X : Cx) (W : WX) (pos : Pos) (keys : List (Option Expr)) (values : List Expr) (ks : List Str) (ta : TAd) : Prop where
  pp : ∃ trs, PPs X pos keys values trs ∧ ∀ Z env S σ H (Q : List (V × V) → Hp → Prop), RE ⟨X.K, Z⟩ S H env σ → RS ⟨X.K, Z⟩ S H → ta env S (fun ds S' => ∀ vs H', Aft ⟨X.K, Z⟩ S H S' H' → RpL ⟨X.K, Z⟩ S' H' ds vs → vs.length = ks.length ∧ Q ((ks.zip vs).map fun q => (V.str q.1, q.2)) H') (PX ⟨X.K, Z⟩ S H σ W) → tPairs trs σ H Q
  mo : MoE ta
end Bl

namespace Ld.Lt.K17
open PySem PySem.Spec PyProof.Rows L2 Bl
def top (i : Nat) : Stmt := PySem.Challenge.pw_bendlands_k17_things_apart.main.body.getD i (.Pass ⟨0, 0, 0, 0⟩)
abbrev nm_sign_of : List Str := ["number"]
abbrev vw_sign_of : Vw := ⟨[0], [0], [], ["int"]⟩
theorem fs_sign_of : FnScope nm_sign_of ["number"] (defScope (top 9)) := ⟨rfl, rfl, rfl, by decide +kernel, rfl, by decide +kernel, by decide +kernel⟩
theorem sc_sign_of : Sc nm_sign_of (defScope (top 9)) vw_sign_of := scOf (by decide +kernel)
def d_sign_of : He.DefD := ⟨("sign_of", none), "sign_of", "sign_of", defArgs (top 9), defBody (top 9), defScope (top 9), [], []⟩
abbrev nm_field_sign : List Str := ["top", "beside", "h"]
abbrev vw_field_sign : Vw := ⟨[0, 1, 2], [0, 1, 2], [], ["sign_of"]⟩
theorem fs_field_sign : FnScope nm_field_sign ["top", "beside", "h"] (defScope (top 14)) := ⟨rfl, rfl, rfl, by decide +kernel, rfl, by decide +kernel, by decide +kernel⟩
theorem sc_field_sign : Sc nm_field_sign (defScope (top 14)) vw_field_sign := scOf (by decide +kernel)
def d_field_sign : He.DefD := ⟨("field_sign", none), "field_sign", "field_sign", defArgs (top 14), defBody (top 14), defScope (top 14), [], []⟩
abbrev nm_root_sign : List Str := ["one", "base", "sign", "square", "scale"]
abbrev vw_root_sign : Vw := ⟨[0, 1, 2, 3, 4], [0, 1, 2, 3, 4], [], ["field_sign"]⟩
theorem fs_root_sign : FnScope nm_root_sign ["one"] (defScope (top 15)) := ⟨rfl, rfl, rfl, by decide +kernel, rfl, by decide +kernel, by decide +kernel⟩
theorem sc_root_sign : Sc nm_root_sign (defScope (top 15)) vw_root_sign := scOf (by decide +kernel)
def d_root_sign : He.DefD := ⟨("root_sign", none), "root_sign", "root_sign", defArgs (top 15), defBody (top 15), defScope (top 15), [], []⟩
abbrev nm_from_frac : List Str := ["one"]
abbrev vw_from_frac : Vw := ⟨[0], [0], [], ["ZERO"]⟩
theorem fs_from_frac : FnScope nm_from_frac ["one"] (defScope (top 16)) := ⟨rfl, rfl, rfl, by decide +kernel, rfl, by decide +kernel, by decide +kernel⟩
theorem sc_from_frac : Sc nm_from_frac (defScope (top 16)) vw_from_frac := scOf (by decide +kernel)
def d_from_frac : He.DefD := ⟨("from_frac", none), "from_frac", "from_frac", defArgs (top 16), defBody (top 16), defScope (top 16), [], []⟩
abbrev nm_whole_root : List Str := ["number", "found"]
abbrev vw_whole_root : Vw := ⟨[0, 1], [0, 1], [], []⟩
theorem fs_whole_root : FnScope nm_whole_root ["number"] (defScope (top 10)) := ⟨rfl, rfl, rfl, by decide +kernel, rfl, by decide +kernel, by decide +kernel⟩
theorem sc_whole_root : Sc nm_whole_root (defScope (top 10)) vw_whole_root := scOf (by decide +kernel)
def d_whole_root : He.DefD := ⟨("whole_root", none), "whole_root", "whole_root", defArgs (top 10), defBody (top 10), defScope (top 10), [], []⟩
abbrev nm_far_square : List Str := ["one", "other"]
abbrev vw_far_square : Vw := ⟨[0, 1], [0, 1], [], []⟩
theorem fs_far_square : FnScope nm_far_square ["one", "other"] (defScope (top 18)) := ⟨rfl, rfl, rfl, by decide +kernel, rfl, by decide +kernel, by decide +kernel⟩
theorem sc_far_square : Sc nm_far_square (defScope (top 18)) vw_far_square := scOf (by decide +kernel)
def d_far_square : He.DefD := ⟨("far_square", none), "far_square", "far_square", defArgs (top 18), defBody (top 18), defScope (top 18), [], []⟩
abbrev nm_step_from : List Str := ["one", "other"]
abbrev vw_step_from : Vw := ⟨[0, 1], [0, 1], [], []⟩
theorem fs_step_from : FnScope nm_step_from ["one", "other"] (defScope (top 21)) := ⟨rfl, rfl, rfl, by decide +kernel, rfl, by decide +kernel, by decide +kernel⟩
theorem sc_step_from : Sc nm_step_from (defScope (top 21)) vw_step_from := scOf (by decide +kernel)
def d_step_from : He.DefD := ⟨("step_from", none), "step_from", "step_from", defArgs (top 21), defBody (top 21), defScope (top 21), [], []⟩
abbrev nm_common : List Str := ["one", "other"]
abbrev vw_common : Vw := ⟨[0, 1], [0, 1], [], ["abs"]⟩
theorem fs_common : FnScope nm_common ["one", "other"] (defScope (top 6)) := ⟨rfl, rfl, rfl, by decide +kernel, rfl, by decide +kernel, by decide +kernel⟩
theorem sc_common : Sc nm_common (defScope (top 6)) vw_common := scOf (by decide +kernel)
def d_common : He.DefD := ⟨("common", none), "common", "common", defArgs (top 6), defBody (top 6), defScope (top 6), [], []⟩
abbrev nm_lowest : List Str := ["direction", "by"]
abbrev vw_lowest : Vw := ⟨[0, 1], [0, 1], [], ["common"]⟩
theorem fs_lowest : FnScope nm_lowest ["direction"] (defScope (top 22)) := ⟨rfl, rfl, rfl, by decide +kernel, rfl, by decide +kernel, by decide +kernel⟩
theorem sc_lowest : Sc nm_lowest (defScope (top 22)) vw_lowest := scOf (by decide +kernel)
def d_lowest : He.DefD := ⟨("lowest", none), "lowest", "lowest", defArgs (top 22), defBody (top 22), defScope (top 22), [], []⟩
abbrev nm_outward : List Str := ["a", "b", "x", "y"]
abbrev vw_outward : Vw := ⟨[0, 1, 2, 3], [0, 1, 2, 3], [], ["step_from", "lowest"]⟩
theorem fs_outward : FnScope nm_outward ["a", "b"] (defScope (top 23)) := ⟨rfl, rfl, rfl, by decide +kernel, rfl, by decide +kernel, by decide +kernel⟩
theorem sc_outward : Sc nm_outward (defScope (top 23)) vw_outward := scOf (by decide +kernel)
def d_outward : He.DefD := ⟨("outward", none), "outward", "outward", defArgs (top 23), defBody (top 23), defScope (top 23), [], []⟩
abbrev nm_faces : List Str := ["thing", "word", "points", "centres", "p", "q", "out", "near", "centre", "first", "last", "arc"]
abbrev vw_faces : Vw := ⟨[0, 1, 2, 3, 4, 5, 6, 7, 8, 9, 10, 11], [0, 1, 2, 3, 4, 5, 6, 7, 8, 9, 10, 11], [], ["outward", "lowest", "step_from", "whole_root", "far_square"]⟩
theorem fs_faces : FnScope nm_faces ["thing"] (defScope (top 24)) := ⟨rfl, rfl, rfl, by decide +kernel, rfl, by decide +kernel, by decide +kernel⟩
theorem sc_faces : Sc nm_faces (defScope (top 24)) vw_faces := scOf (by decide +kernel)
def d_faces : He.DefD := ⟨("faces", none), "faces", "faces", defArgs (top 24), defBody (top 24), defScope (top 24), [], []⟩
abbrev nm_frac : List Str := ["top", "bottom", "sign", "e", "by"]
abbrev vw_frac : Vw := ⟨[0, 1, 2, 3, 4], [0, 1, 2, 3, 4], [], ["abs", "ZeroDivisionError", "NoFraction", "common"]⟩
theorem fs_frac : FnScope nm_frac ["top", "bottom"] (defScope (top 7)) := ⟨rfl, rfl, rfl, by decide +kernel, rfl, by decide +kernel, by decide +kernel⟩
theorem sc_frac : Sc nm_frac (defScope (top 7)) vw_frac := scOf (by decide +kernel)
def d_frac : He.DefD := ⟨("frac", none), "frac", "frac", defArgs (top 7), defBody (top 7), defScope (top 7), [.int 1], []⟩
abbrev nm_plus : List Str := ["one", "other"]
abbrev vw_plus : Vw := ⟨[0, 1], [0, 1], [], ["frac"]⟩
theorem fs_plus : FnScope nm_plus ["one", "other"] (defScope (top 8)) := ⟨rfl, rfl, rfl, by decide +kernel, rfl, by decide +kernel, by decide +kernel⟩
theorem sc_plus : Sc nm_plus (defScope (top 8)) vw_plus := scOf (by decide +kernel)
def d_plus : He.DefD := ⟨("plus", none), "plus", "plus", defArgs (top 8), defBody (top 8), defScope (top 8), [], []⟩
abbrev nm_is_square : List Str := ["number"]
abbrev vw_is_square : Vw := ⟨[0], [0], [], ["whole_root"]⟩
theorem fs_is_square : FnScope nm_is_square ["number"] (defScope (top 11)) := ⟨rfl, rfl, rfl, by decide +kernel, rfl, by decide +kernel, by decide +kernel⟩
theorem sc_is_square : Sc nm_is_square (defScope (top 11)) vw_is_square := scOf (by decide +kernel)
def d_is_square : He.DefD := ⟨("is_square", none), "is_square", "is_square", defArgs (top 11), defBody (top 11), defScope (top 11), [], []⟩
abbrev nm_root : List Str := ["base", "sign", "square"]
abbrev vw_root : Vw := ⟨[0, 1, 2], [0, 1, 2], [], ["NoRoot", "ZERO", "is_square", "plus", "whole_root"]⟩
theorem fs_root : FnScope nm_root ["base", "sign", "square"] (defScope (top 13)) := ⟨rfl, rfl, rfl, by decide +kernel, rfl, by decide +kernel, by decide +kernel⟩
theorem sc_root : Sc nm_root (defScope (top 13)) vw_root := scOf (by decide +kernel)
def d_root : He.DefD := ⟨("root", none), "root", "root", defArgs (top 13), defBody (top 13), defScope (top 13), [], []⟩
abbrev nm_dot_of : List Str := ["one", "other"]
abbrev vw_dot_of : Vw := ⟨[0, 1], [0, 1], [], []⟩
theorem fs_dot_of : FnScope nm_dot_of ["one", "other"] (defScope (top 20)) := ⟨rfl, rfl, rfl, by decide +kernel, rfl, by decide +kernel, by decide +kernel⟩
theorem sc_dot_of : Sc nm_dot_of (defScope (top 20)) vw_dot_of := scOf (by decide +kernel)
def d_dot_of : He.DefD := ⟨("dot_of", none), "dot_of", "dot_of", defArgs (top 20), defBody (top 20), defScope (top 20), [], []⟩
abbrev nm_cross_of : List Str := ["one", "other"]
abbrev vw_cross_of : Vw := ⟨[0, 1], [0, 1], [], []⟩
theorem fs_cross_of : FnScope nm_cross_of ["one", "other"] (defScope (top 19)) := ⟨rfl, rfl, rfl, by decide +kernel, rfl, by decide +kernel, by decide +kernel⟩
theorem sc_cross_of : Sc nm_cross_of (defScope (top 19)) vw_cross_of := scOf (by decide +kernel)
def d_cross_of : He.DefD := ⟨("cross_of", none), "cross_of", "cross_of", defArgs (top 19), defBody (top 19), defScope (top 19), [], []⟩
abbrev nm_is_out : List Str := ["face", "direction", "first", "last"]
abbrev vw_is_out : Vw := ⟨[0, 1, 2, 3], [0, 1, 2, 3], [], ["cross_of"]⟩
theorem fs_is_out : FnScope nm_is_out ["face", "direction"] (defScope (top 26)) := ⟨rfl, rfl, rfl, by decide +kernel, rfl, by decide +kernel, by decide +kernel⟩
theorem sc_is_out : Sc nm_is_out (defScope (top 26)) vw_is_out := scOf (by decide +kernel)
def d_is_out : He.DefD := ⟨("is_out", none), "is_out", "is_out", defArgs (top 26), defBody (top 26), defScope (top 26), [], []⟩
abbrev nm_against : List Str := ["direction"]
abbrev vw_against : Vw := ⟨[0], [0], [], []⟩
theorem fs_against : FnScope nm_against ["direction"] (defScope (top 31)) := ⟨rfl, rfl, rfl, by decide +kernel, rfl, by decide +kernel, by decide +kernel⟩
theorem sc_against : Sc nm_against (defScope (top 31)) vw_against := scOf (by decide +kernel)
def d_against : He.DefD := ⟨("against", none), "against", "against", defArgs (top 31), defBody (top 31), defScope (top 31), [], []⟩
abbrev nm_rounds_apart : List Str := ["one", "other", "steps"]
abbrev vw_rounds_apart : Vw := ⟨[0, 1, 2], [0, 1, 2], [], ["step_from", "is_out", "against", "root", "dot_of"]⟩
theorem fs_rounds_apart : FnScope nm_rounds_apart ["one", "other"] (defScope (top 32)) := ⟨rfl, rfl, rfl, by decide +kernel, rfl, by decide +kernel, by decide +kernel⟩
theorem sc_rounds_apart : Sc nm_rounds_apart (defScope (top 32)) vw_rounds_apart := scOf (by decide +kernel)
def d_rounds_apart : He.DefD := ⟨("rounds_apart", none), "rounds_apart", "rounds_apart", defArgs (top 32), defBody (top 32), defScope (top 32), [], []⟩
abbrev nm_length_of : List Str := ["direction"]
abbrev vw_length_of : Vw := ⟨[0], [0], [], ["whole_root", "dot_of"]⟩
theorem fs_length_of : FnScope nm_length_of ["direction"] (defScope (top 25)) := ⟨rfl, rfl, rfl, by decide +kernel, rfl, by decide +kernel, by decide +kernel⟩
theorem sc_length_of : Sc nm_length_of (defScope (top 25)) vw_length_of := scOf (by decide +kernel)
def d_length_of : He.DefD := ⟨("length_of", none), "length_of", "length_of", defArgs (top 25), defBody (top 25), defScope (top 25), [], []⟩
abbrev nm_steps_from : List Str := ["spot", "here"]
abbrev vw_steps_from : Vw := ⟨[0, 1], [0, 1], [], []⟩
theorem fs_steps_from : FnScope nm_steps_from ["spot", "here"] (defScope (top 28)) := ⟨rfl, rfl, rfl, by decide +kernel, rfl, by decide +kernel, by decide +kernel⟩
theorem sc_steps_from : Sc nm_steps_from (defScope (top 28)) vw_steps_from := scOf (by decide +kernel)
def d_steps_from : He.DefD := ⟨("steps_from", none), "steps_from", "steps_from", defArgs (top 28), defBody (top 28), defScope (top 28), [], []⟩
abbrev nm_side_height : List Str := ["face", "here"]
abbrev vw_side_height : Vw := ⟨[0, 1], [0, 1], [], ["dot_of", "steps_from", "outward"]⟩
theorem fs_side_height : FnScope nm_side_height ["face", "here"] (defScope (top 29)) := ⟨rfl, rfl, rfl, by decide +kernel, rfl, by decide +kernel, by decide +kernel⟩
theorem sc_side_height : Sc nm_side_height (defScope (top 29)) vw_side_height := scOf (by decide +kernel)
def d_side_height : He.DefD := ⟨("side_height", none), "side_height", "side_height", defArgs (top 29), defBody (top 29), defScope (top 29), [], []⟩
abbrev nm_is_beside : List Str := ["face", "here", "ahead"]
abbrev vw_is_beside : Vw := ⟨[0, 1, 2], [0, 1, 2], [], ["step_from", "dot_of", "steps_from"]⟩
theorem fs_is_beside : FnScope nm_is_beside ["face", "here"] (defScope (top 30)) := ⟨rfl, rfl, rfl, by decide +kernel, rfl, by decide +kernel, by decide +kernel⟩
theorem sc_is_beside : Sc nm_is_beside (defScope (top 30)) vw_is_beside := scOf (by decide +kernel)
def d_is_beside : He.DefD := ⟨("is_beside", none), "is_beside", "is_beside", defArgs (top 30), defBody (top 30), defScope (top 30), [], []⟩
abbrev nm_side_apart : List Str := ["side", "other", "out", "here"]
abbrev vw_side_apart : Vw := ⟨[0, 1, 2, 3], [0, 1, 2, 3], [], ["outward", "is_beside", "is_out", "against", "from_frac", "frac", "side_height", "length_of"]⟩
theorem fs_side_apart : FnScope nm_side_apart ["side", "other"] (defScope (top 33)) := ⟨rfl, rfl, rfl, by decide +kernel, rfl, by decide +kernel, by decide +kernel⟩
theorem sc_side_apart : Sc nm_side_apart (defScope (top 33)) vw_side_apart := scOf (by decide +kernel)
def d_side_apart : He.DefD := ⟨("side_apart", none), "side_apart", "side_apart", defArgs (top 33), defBody (top 33), defScope (top 33), [], []⟩
abbrev nm_faces_apart : List Str := ["one", "other"]
abbrev vw_faces_apart : Vw := ⟨[0, 1], [0, 1], [], ["side_apart", "rounds_apart"]⟩
theorem fs_faces_apart : FnScope nm_faces_apart ["one", "other"] (defScope (top 34)) := ⟨rfl, rfl, rfl, by decide +kernel, rfl, by decide +kernel, by decide +kernel⟩
theorem sc_faces_apart : Sc nm_faces_apart (defScope (top 34)) vw_faces_apart := scOf (by decide +kernel)
def d_faces_apart : He.DefD := ⟨("faces_apart", none), "faces_apart", "faces_apart", defArgs (top 34), defBody (top 34), defScope (top 34), [], []⟩
abbrev nm_apart : List Str := ["one", "other", "face", "second", "found"]
abbrev vw_apart : Vw := ⟨[0, 1, 2, 3, 4], [0, 1, 2, 3, 4], [], ["faces", "faces_apart", "root_sign", "from_frac", "ZERO"]⟩
theorem fs_apart : FnScope nm_apart ["one", "other"] (defScope (top 35)) := ⟨rfl, rfl, rfl, by decide +kernel, rfl, by decide +kernel, by decide +kernel⟩
theorem sc_apart : Sc nm_apart (defScope (top 35)) vw_apart := scOf (by decide +kernel)
def d_apart : He.DefD := ⟨("apart", none), "apart", "apart", defArgs (top 35), defBody (top 35), defScope (top 35), [], []⟩
abbrev nm_l_bag : List Str := ["_law_script", "_law_at", "_law_cell", "_law_great", "_law_primes"]
abbrev vw_l_bag : Vw := ⟨[0, 1, 2, 3, 4], [0, 1, 2, 3, 4], [], ["len", "abs"]⟩
theorem fs_l_bag : FnScope nm_l_bag ["_law_script", "_law_at"] (defScope (top 37)) := ⟨rfl, rfl, rfl, by decide +kernel, rfl, by decide +kernel, by decide +kernel⟩
theorem sc_l_bag : Sc nm_l_bag (defScope (top 37)) vw_l_bag := scOf (by decide +kernel)
def d_l_bag : He.DefD := ⟨("_law_bag", none), "_law_bag", "_law_bag", defArgs (top 37), defBody (top 37), defScope (top 37), [], []⟩
abbrev nm_l_take : List Str := ["_law_bag_here", "_law_many", "_law_digit"]
abbrev vw_l_take : Vw := ⟨[0, 1, 2], [0, 1, 2], [], []⟩
theorem fs_l_take : FnScope nm_l_take ["_law_bag_here", "_law_many"] (defScope (top 38)) := ⟨rfl, rfl, rfl, by decide +kernel, rfl, by decide +kernel, by decide +kernel⟩
theorem sc_l_take : Sc nm_l_take (defScope (top 38)) vw_l_take := scOf (by decide +kernel)
def d_l_take : He.DefD := ⟨("_law_take", none), "_law_take", "_law_take", defArgs (top 38), defBody (top 38), defScope (top 38), [], []⟩
abbrev nm_l_turned : List Str := ["_law_spot", "_law_many", "_law_x", "_law_y", "_law_turn"]
abbrev vw_l_turned : Vw := ⟨[0, 1, 2, 3, 4], [0, 1, 2, 3, 4], [], ["range"]⟩
theorem fs_l_turned : FnScope nm_l_turned ["_law_spot", "_law_many"] (defScope (top 39)) := ⟨rfl, rfl, rfl, by decide +kernel, rfl, by decide +kernel, by decide +kernel⟩
theorem sc_l_turned : Sc nm_l_turned (defScope (top 39)) vw_l_turned := scOf (by decide +kernel)
def d_l_turned : He.DefD := ⟨("_law_turned", none), "_law_turned", "_law_turned", defArgs (top 39), defBody (top 39), defScope (top 39), [], []⟩
abbrev nm_l_thing : List Str := ["_law_bag_here", "_law_wide", "_law_way", "_law_size", "_law_quarter", "_law_at", "_law_longs", "_law_arcs", "_law_some", "_law_points", "_law_spot", "_law_x", "_law_y"]
abbrev vw_l_thing : Vw := ⟨[0, 1, 2, 3, 4, 5, 6, 7, 8, 9, 10, 11, 12], [0, 1, 2, 3, 4, 5, 6, 7, 8, 9, 10, 11, 12], [], ["_law_take", "list", "_law_turned"]⟩
theorem fs_l_thing : FnScope nm_l_thing ["_law_bag_here", "_law_wide", "_law_way"] (defScope (top 40)) := ⟨rfl, rfl, rfl, by decide +kernel, rfl, by decide +kernel, by decide +kernel⟩
theorem sc_l_thing : Sc nm_l_thing (defScope (top 40)) vw_l_thing := scOf (by decide +kernel)
def d_l_thing : He.DefD := ⟨("_law_thing", none), "_law_thing", "_law_thing", defArgs (top 40), defBody (top 40), defScope (top 40), [], []⟩
abbrev nm_l_low : List Str := ["_law_top", "_law_bottom", "_law_one", "_law_other"]
abbrev vw_l_low : Vw := ⟨[0, 1, 2, 3], [0, 1, 2, 3], [], ["abs"]⟩
theorem fs_l_low : FnScope nm_l_low ["_law_top", "_law_bottom"] (defScope (top 41)) := ⟨rfl, rfl, rfl, by decide +kernel, rfl, by decide +kernel, by decide +kernel⟩
theorem sc_l_low : Sc nm_l_low (defScope (top 41)) vw_l_low := scOf (by decide +kernel)
def d_l_low : He.DefD := ⟨("_law_low", none), "_law_low", "_law_low", defArgs (top 41), defBody (top 41), defScope (top 41), [], []⟩
abbrev nm_l_sum : List Str := ["_law_one", "_law_other"]
abbrev vw_l_sum : Vw := ⟨[0, 1], [0, 1], [], ["_law_low"]⟩
theorem fs_l_sum : FnScope nm_l_sum ["_law_one", "_law_other"] (defScope (top 42)) := ⟨rfl, rfl, rfl, by decide +kernel, rfl, by decide +kernel, by decide +kernel⟩
theorem sc_l_sum : Sc nm_l_sum (defScope (top 42)) vw_l_sum := scOf (by decide +kernel)
def d_l_sum : He.DefD := ⟨("_law_sum", none), "_law_sum", "_law_sum", defArgs (top 42), defBody (top 42), defScope (top 42), [], []⟩
abbrev nm_l_rooted : List Str := ["_law_number", "_law_found"]
abbrev vw_l_rooted : Vw := ⟨[0, 1], [0, 1], [], []⟩
theorem fs_l_rooted : FnScope nm_l_rooted ["_law_number"] (defScope (top 43)) := ⟨rfl, rfl, rfl, by decide +kernel, rfl, by decide +kernel, by decide +kernel⟩
theorem sc_l_rooted : Sc nm_l_rooted (defScope (top 43)) vw_l_rooted := scOf (by decide +kernel)
def d_l_rooted : He.DefD := ⟨("_law_rooted", none), "_law_rooted", "_law_rooted", defArgs (top 43), defBody (top 43), defScope (top 43), [], []⟩
abbrev nm_l_dot : List Str := ["_law_one", "_law_other"]
abbrev vw_l_dot : Vw := ⟨[0, 1], [0, 1], [], []⟩
theorem fs_l_dot : FnScope nm_l_dot ["_law_one", "_law_other"] (defScope (top 46)) := ⟨rfl, rfl, rfl, by decide +kernel, rfl, by decide +kernel, by decide +kernel⟩
theorem sc_l_dot : Sc nm_l_dot (defScope (top 46)) vw_l_dot := scOf (by decide +kernel)
def d_l_dot : He.DefD := ⟨("_law_dot", none), "_law_dot", "_law_dot", defArgs (top 46), defBody (top 46), defScope (top 46), [], []⟩
abbrev nm_l_minus : List Str := ["_law_one", "_law_other"]
abbrev vw_l_minus : Vw := ⟨[0, 1], [0, 1], [], []⟩
theorem fs_l_minus : FnScope nm_l_minus ["_law_one", "_law_other"] (defScope (top 48)) := ⟨rfl, rfl, rfl, by decide +kernel, rfl, by decide +kernel, by decide +kernel⟩
theorem sc_l_minus : Sc nm_l_minus (defScope (top 48)) vw_l_minus := scOf (by decide +kernel)
def d_l_minus : He.DefD := ⟨("_law_minus", none), "_law_minus", "_law_minus", defArgs (top 48), defBody (top 48), defScope (top 48), [], []⟩
abbrev nm_l_steps : List Str := ["_law_spot", "_law_place", "_law_a", "_law_b", "_law_c", "_law_d"]
abbrev vw_l_steps : Vw := ⟨[0, 1, 2, 3, 4, 5], [0, 1, 2, 3, 4, 5], [], []⟩
theorem fs_l_steps : FnScope nm_l_steps ["_law_spot", "_law_place"] (defScope (top 45)) := ⟨rfl, rfl, rfl, by decide +kernel, rfl, by decide +kernel, by decide +kernel⟩
theorem sc_l_steps : Sc nm_l_steps (defScope (top 45)) vw_l_steps := scOf (by decide +kernel)
def d_l_steps : He.DefD := ⟨("_law_steps", none), "_law_steps", "_law_steps", defArgs (top 45), defBody (top 45), defScope (top 45), [], []⟩
abbrev nm_l_cross : List Str := ["_law_one", "_law_other"]
abbrev vw_l_cross : Vw := ⟨[0, 1], [0, 1], [], []⟩
theorem fs_l_cross : FnScope nm_l_cross ["_law_one", "_law_other"] (defScope (top 47)) := ⟨rfl, rfl, rfl, by decide +kernel, rfl, by decide +kernel, by decide +kernel⟩
theorem sc_l_cross : Sc nm_l_cross (defScope (top 47)) vw_l_cross := scOf (by decide +kernel)
def d_l_cross : He.DefD := ⟨("_law_cross", none), "_law_cross", "_law_cross", defArgs (top 47), defBody (top 47), defScope (top 47), [], []⟩
abbrev nm_l_by_cord : List Str := ["_law_p", "_law_q", "_law_place", "_law_x", "_law_y", "_law_by", "_law_ahead", "_law_size", "_law_onward"]
abbrev vw_l_by_cord : Vw := ⟨[0, 1, 2, 3, 4, 5, 6, 7, 8], [0, 1, 2, 3, 4, 5, 6, 7, 8], [], ["_law_steps", "_law_minus", "_law_dot", "_law_low", "_law_cross"]⟩
theorem fs_l_by_cord : FnScope nm_l_by_cord ["_law_p", "_law_q", "_law_place"] (defScope (top 49)) := ⟨rfl, rfl, rfl, by decide +kernel, rfl, by decide +kernel, by decide +kernel⟩
theorem sc_l_by_cord : Sc nm_l_by_cord (defScope (top 49)) vw_l_by_cord := scOf (by decide +kernel)
def d_l_by_cord : He.DefD := ⟨("_law_by_cord", none), "_law_by_cord", "_law_by_cord", defArgs (top 49), defBody (top 49), defScope (top 49), [], []⟩
abbrev nm_l_is_on : List Str := ["_law_thing_here", "_law_place", "_law_x", "_law_y", "_law_by", "_law_p", "_law_q", "_law_beyond"]
abbrev vw_l_is_on : Vw := ⟨[0, 1, 2, 3, 4, 5, 6, 7], [0, 1, 2, 3, 4, 5, 6, 7], [], ["_law_steps", "_law_by_cord", "_law_minus", "_law_cross", "_law_dot"]⟩
theorem fs_l_is_on : FnScope nm_l_is_on ["_law_thing_here", "_law_place"] (defScope (top 50)) := ⟨rfl, rfl, rfl, by decide +kernel, rfl, by decide +kernel, by decide +kernel⟩
theorem sc_l_is_on : Sc nm_l_is_on (defScope (top 50)) vw_l_is_on := scOf (by decide +kernel)
def d_l_is_on : He.DefD := ⟨("_law_is_on", none), "_law_is_on", "_law_is_on", defArgs (top 50), defBody (top 50), defScope (top 50), [], []⟩
abbrev nm_l_product : List Str := ["_law_one", "_law_other"]
abbrev vw_l_product : Vw := ⟨[0, 1], [0, 1], [], ["_law_low"]⟩
theorem fs_l_product : FnScope nm_l_product ["_law_one", "_law_other"] (defScope (top 52)) := ⟨rfl, rfl, rfl, by decide +kernel, rfl, by decide +kernel, by decide +kernel⟩
theorem sc_l_product : Sc nm_l_product (defScope (top 52)) vw_l_product := scOf (by decide +kernel)
def d_l_product : He.DefD := ⟨("_law_product", none), "_law_product", "_law_product", defArgs (top 52), defBody (top 52), defScope (top 52), [], []⟩
abbrev nm_l_contrary : List Str := ["_law_one"]
abbrev vw_l_contrary : Vw := ⟨[0], [0], [], []⟩
theorem fs_l_contrary : FnScope nm_l_contrary ["_law_one"] (defScope (top 53)) := ⟨rfl, rfl, rfl, by decide +kernel, rfl, by decide +kernel, by decide +kernel⟩
theorem sc_l_contrary : Sc nm_l_contrary (defScope (top 53)) vw_l_contrary := scOf (by decide +kernel)
def d_l_contrary : He.DefD := ⟨("_law_contrary", none), "_law_contrary", "_law_contrary", defArgs (top 53), defBody (top 53), defScope (top 53), [], []⟩
abbrev nm_l_side : List Str := ["_law_top", "_law_beside", "_law_square", "_law_one", "_law_other", "_law_rest"]
abbrev vw_l_side : Vw := ⟨[0, 1, 2, 3, 4, 5], [0, 1, 2, 3, 4, 5], [], ["int", "_law_sum", "_law_product", "_law_contrary"]⟩
theorem fs_l_side : FnScope nm_l_side ["_law_top", "_law_beside", "_law_square"] (defScope (top 54)) := ⟨rfl, rfl, rfl, by decide +kernel, rfl, by decide +kernel, by decide +kernel⟩
theorem sc_l_side : Sc nm_l_side (defScope (top 54)) vw_l_side := scOf (by decide +kernel)
def d_l_side : He.DefD := ⟨("_law_side", none), "_law_side", "_law_side", defArgs (top 54), defBody (top 54), defScope (top 54), [], []⟩
abbrev nm_l_compare : List Str := ["_law_one", "_law_other", "_law_base", "_law_first", "_law_rest"]
abbrev vw_l_compare : Vw := ⟨[0, 1, 2, 3, 4], [0, 1, 2, 3, 4], [], ["_law_sum", "_law_contrary", "_law_side", "_law_product"]⟩
theorem fs_l_compare : FnScope nm_l_compare ["_law_one", "_law_other"] (defScope (top 55)) := ⟨rfl, rfl, rfl, by decide +kernel, rfl, by decide +kernel, by decide +kernel⟩
theorem sc_l_compare : Sc nm_l_compare (defScope (top 55)) vw_l_compare := scOf (by decide +kernel)
def d_l_compare : He.DefD := ⟨("_law_compare", none), "_law_compare", "_law_compare", defArgs (top 55), defBody (top 55), defScope (top 55), [], []⟩
abbrev nm_l_root : List Str := ["_law_base", "_law_square", "_law_top", "_law_bottom"]
abbrev vw_l_root : Vw := ⟨[0, 1, 2, 3], [0, 1, 2, 3], [], ["_law_rooted", "_law_low"]⟩
theorem fs_l_root : FnScope nm_l_root ["_law_base", "_law_square"] (defScope (top 44)) := ⟨rfl, rfl, rfl, by decide +kernel, rfl, by decide +kernel, by decide +kernel⟩
theorem sc_l_root : Sc nm_l_root (defScope (top 44)) vw_l_root := scOf (by decide +kernel)
def d_l_root : He.DefD := ⟨("_law_root", none), "_law_root", "_law_root", defArgs (top 44), defBody (top 44), defScope (top 44), [], []⟩
abbrev nm_l_distance : List Str := ["_law_thing_here", "_law_place", "_law_x", "_law_y", "_law_by", "_law_p", "_law_q"]
abbrev vw_l_distance : Vw := ⟨[0, 1, 2, 3, 4, 5, 6], [0, 1, 2, 3, 4, 5, 6], [], ["_law_is_on", "_law_steps", "_law_root", "_law_low", "_law_by_cord", "_law_minus", "_law_cross", "_law_dot", "_law_rooted"]⟩
theorem fs_l_distance : FnScope nm_l_distance ["_law_thing_here", "_law_place"] (defScope (top 51)) := ⟨rfl, rfl, rfl, by decide +kernel, rfl, by decide +kernel, by decide +kernel⟩
theorem sc_l_distance : Sc nm_l_distance (defScope (top 51)) vw_l_distance := scOf (by decide +kernel)
def d_l_distance : He.DefD := ⟨("_law_distance", none), "_law_distance", "_law_distance", defArgs (top 51), defBody (top 51), defScope (top 51), [], []⟩
abbrev nm_l_in_arc : List Str := ["_law_thing_here", "_law_ahead", "_law_p", "_law_q"]
abbrev vw_l_in_arc : Vw := ⟨[0, 1, 2, 3], [0, 1, 2, 3], [], ["_law_minus", "_law_cross"]⟩
theorem fs_l_in_arc : FnScope nm_l_in_arc ["_law_thing_here", "_law_ahead"] (defScope (top 57)) := ⟨rfl, rfl, rfl, by decide +kernel, rfl, by decide +kernel, by decide +kernel⟩
theorem sc_l_in_arc : Sc nm_l_in_arc (defScope (top 57)) vw_l_in_arc := scOf (by decide +kernel)
def d_l_in_arc : He.DefD := ⟨("_law_in_arc", none), "_law_in_arc", "_law_in_arc", defArgs (top 57), defBody (top 57), defScope (top 57), [], []⟩
abbrev nm_l_reach_of : List Str := ["_law_thing_here", "_law_spot", "_law_place", "_law_told", "_law_p", "_law_q", "_law_here", "_law_near", "_law_ahead", "_law_paces", "_law_hand"]
abbrev vw_l_reach_of : Vw := ⟨[0, 1, 2, 3, 4, 5, 6, 7, 8, 9, 10], [0, 1, 2, 3, 4, 5, 6, 7, 8, 9, 10], [], ["_law_distance", "_law_minus", "_law_in_arc", "_law_dot", "_law_cross"]⟩
theorem fs_l_reach_of : FnScope nm_l_reach_of ["_law_thing_here", "_law_spot"] (defScope (top 56)) := ⟨rfl, rfl, rfl, by decide +kernel, rfl, by decide +kernel, by decide +kernel⟩
theorem sc_l_reach_of : Sc nm_l_reach_of (defScope (top 56)) vw_l_reach_of := scOf (by decide +kernel)
def d_l_reach_of : He.DefD := ⟨("_law_reach_of", none), "_law_reach_of", "_law_reach_of", defArgs (top 56), defBody (top 56), defScope (top 56), [], []⟩
abbrev nm_l_apart : List Str := ["_law_one", "_law_other", "_law_found", "_law_first", "_law_second", "_law_corners_of", "_law_told", "_law_ahead", "_law_radius", "_law_least", "_law_one_found", ".0", "_law_spot"]
abbrev vw_l_apart : Vw := ⟨[0, 1, 2, 3, 4, 5, 6, 7, 8, 9, 10], [0, 1, 2, 3, 5, 6, 7, 8, 9, 10], [4], ["_law_reach_of", "_law_rooted", "_law_dot", "_law_minus", "_law_is_on", "_law_in_arc", "_law_sum", "_law_compare"]⟩
abbrev vb0_l_apart : Vw := ⟨[4, 11, 12], [11, 12], [4], ["_law_reach_of"]⟩
theorem fs_l_apart : FnScope nm_l_apart ["_law_one", "_law_other"] (defScope (top 58)) := ⟨rfl, rfl, rfl, by decide +kernel, rfl, by decide +kernel, by decide +kernel⟩
theorem sc_l_apart : Sc nm_l_apart (defScope (top 58)) vw_l_apart := scOf (by decide +kernel)
def d_l_apart : He.DefD := ⟨("_law_apart", none), "_law_apart", "_law_apart", defArgs (top 58), defBody (top 58), defScope (top 58), [], []⟩
abbrev nm_l_moved : List Str := ["_law_thing_here", "_law_x", "_law_y", ".0", "_law_a", "_law_b"]
abbrev vw_l_moved : Vw := ⟨[0, 1, 2], [0], [1, 2], ["tuple"]⟩
abbrev vb0_l_moved : Vw := ⟨[1, 2, 3, 4, 5], [3, 4, 5], [1, 2], []⟩
theorem fs_l_moved : FnScope nm_l_moved ["_law_thing_here", "_law_x", "_law_y"] (defScope (top 60)) := ⟨rfl, rfl, rfl, by decide +kernel, rfl, by decide +kernel, by decide +kernel⟩
theorem sc_l_moved : Sc nm_l_moved (defScope (top 60)) vw_l_moved := scOf (by decide +kernel)
def d_l_moved : He.DefD := ⟨("_law_moved", none), "_law_moved", "_law_moved", defArgs (top 60), defBody (top 60), defScope (top 60), [], []⟩
abbrev nm_l_box : List Str := ["_law_thing_here", "_law_spots", "_law_far", "_law_across", "_law_up", ".0", "_law_x", "_law_y"]
abbrev vw_l_box : Vw := ⟨[0, 1, 2, 3, 4], [0, 1, 2, 3, 4], [], ["list", "_law_rooted", "_law_dot", "_law_minus", "min", "max"]⟩
abbrev vb0_l_box : Vw := ⟨[5, 6, 7], [5, 6, 7], [], []⟩
abbrev vb1_l_box : Vw := ⟨[5, 6, 7], [5, 6, 7], [], []⟩
theorem fs_l_box : FnScope nm_l_box ["_law_thing_here"] (defScope (top 59)) := ⟨rfl, rfl, rfl, by decide +kernel, rfl, by decide +kernel, by decide +kernel⟩
theorem sc_l_box : Sc nm_l_box (defScope (top 59)) vw_l_box := scOf (by decide +kernel)
def d_l_box : He.DefD := ⟨("_law_box", none), "_law_box", "_law_box", defArgs (top 59), defBody (top 59), defScope (top 59), [], []⟩
abbrev nm_l_off : List Str := ["_law_bag_here", "_law_one", "_law_other", "_law_low_here", "_law_high", "_law_x", "_law_y", "_law_way"]
abbrev vw_l_off : Vw := ⟨[0, 1, 2, 3, 4, 5, 6, 7], [0, 1, 2, 3, 4, 5, 6, 7], [], ["_law_box", "_law_take", "_law_moved"]⟩
theorem fs_l_off : FnScope nm_l_off ["_law_bag_here", "_law_one", "_law_other"] (defScope (top 61)) := ⟨rfl, rfl, rfl, by decide +kernel, rfl, by decide +kernel, by decide +kernel⟩
theorem sc_l_off : Sc nm_l_off (defScope (top 61)) vw_l_off := scOf (by decide +kernel)
def d_l_off : He.DefD := ⟨("_law_off", none), "_law_off", "_law_off", defArgs (top 61), defBody (top 61), defScope (top 61), [], []⟩
abbrev nm_law : List Str := ["_law_script", "_law_k", "_law_bag_here", "_law_turn", "_law_one", "_law_other", "_law_due", "_law_spot", "_law_far"]
abbrev vw_law : Vw := ⟨[0, 1, 2, 3, 4, 5, 6, 7, 8], [0, 1, 2, 3, 4, 5, 6, 7, 8], [], ["range", "max", "min", "len", "_law_bag", "_law_thing", "_law_take", "_law_off", "_law_apart", "int", "_law_moved", "apart"]⟩
theorem fs_law : FnScope nm_law ["_law_script"] (defScope (top 62)) := ⟨rfl, rfl, rfl, by decide +kernel, rfl, by decide +kernel, by decide +kernel⟩
theorem sc_law : Sc nm_law (defScope (top 62)) vw_law := scOf (by decide +kernel)
def d_law : He.DefD := ⟨("law", none), "law", "law", defArgs (top 62), defBody (top 62), defScope (top 62), [], []⟩
def fn : List He.DefD := [d_sign_of, d_field_sign, d_root_sign, d_from_frac, d_whole_root, d_far_square, d_step_from, d_common, d_lowest, d_outward, d_faces, d_frac, d_plus, d_is_square, d_root, d_dot_of, d_cross_of, d_is_out, d_against, d_rounds_apart, d_length_of, d_steps_from, d_side_height, d_is_beside, d_side_apart, d_faces_apart, d_apart, d_l_bag, d_l_take, d_l_turned, d_l_thing, d_l_low, d_l_sum, d_l_rooted, d_l_dot, d_l_minus, d_l_steps, d_l_cross, d_l_by_cord, d_l_is_on, d_l_product, d_l_contrary, d_l_side, d_l_compare, d_l_root, d_l_distance, d_l_in_arc, d_l_reach_of, d_l_apart, d_l_moved, d_l_box, d_l_off, d_law]
def fa : List He.Fa := [.free "range", .free "max", .free "min", .free "len", .glo "_law_bag", .glo "_law_take", .glo "_law_thing", .glo "_law_off", .glo "_law_apart", .free "int", .glo "_law_moved", .glo "apart", .glo "faces", .glo "faces_apart", .glo "root_sign", .glo "ZERO", .glo "from_frac", .glo "field_sign", .glo "sign_of", .glo "outward", .glo "step_from", .glo "lowest", .glo "far_square", .glo "whole_root", .glo "common", .free "abs", .glo "side_apart", .glo "rounds_apart", .glo "is_out", .glo "against", .glo "root", .glo "dot_of", .glo "NoRoot", .exc "NoRoot", .glo "is_square", .glo "plus", .glo "frac", .glo "cross_of", .glo "is_beside", .glo "side_height", .glo "length_of", .glo "steps_from", .free "list", .glo "_law_turned", .glo "_law_reach_of", .glo "_law_minus", .glo "_law_dot", .glo "_law_rooted", .glo "_law_is_on", .glo "_law_in_arc", .glo "_law_sum", .glo "_law_compare", .glo "_law_low", .glo "_law_steps", .glo "_law_by_cord", .glo "_law_cross", .glo "_law_contrary", .glo "_law_side", .glo "_law_product", .glo "_law_distance", .glo "_law_root", .free "tuple", .glo "_law_box", .glo "law"]
def bxl : List (PySem.W.Frag → Bool) := [fun K => tupI K "ZERO" [0, 1]]
def bx : PySem.W.Frag → Bool := fun K => bxl.all fun f => f K
def names0 : List PySem.Str := ["LandError", "NoRoot", "NoFraction", "ZERO", "common", "frac", "plus", "sign_of", "whole_root", "is_square", "root", "field_sign", "root_sign", "from_frac", "far_square", "cross_of", "dot_of", "step_from", "lowest", "outward", "faces", "length_of", "is_out", "steps_from"]
def names1 : List PySem.Str := ["side_height", "is_beside", "against", "rounds_apart", "side_apart", "faces_apart", "apart", "_law_bag", "_law_take", "_law_turned", "_law_thing", "_law_low", "_law_sum", "_law_rooted", "_law_root", "_law_steps", "_law_dot", "_law_cross", "_law_minus", "_law_by_cord", "_law_is_on", "_law_distance", "_law_product", "_law_contrary"]
def names2 : List PySem.Str := ["_law_side", "_law_compare", "_law_reach_of", "_law_in_arc", "_law_apart", "_law_box", "_law_moved", "_law_off"]
def names : List PySem.Str := names0 ++ names1 ++ names2
abbrev R : PySem.W.OpenRow := PySem.W.OpenLaw.row PySem.Challenge.rw_bendlands_k17_things_apart
abbrev hk : PySem.W.Hook := hookX 5 fa fn bx
theorem run (w : World) : HandSHeadRun.RunEq R (PySem.W.view R.prog [62]) hk (obX 5 fa fn bx) 6000 names w := by
  intro os
  kernel_rfl
end Ld.Lt.K17

namespace Lb
open PySem PySem.Spec PyProof.Rows L2 Bl
def k_ZERO : D := .tup ([0, 1].map D.int)
def g_root_sign_square {α : Type} (us ws : List α) : List α := match us, ws with
  | [a0], [b_sign, b_square] => [a0, b_sign, b_square]
  | _, _ => us ++ ws
def t_common : TSd := sSeq (sPar [0, 1] (aCons (dB bAbs (aCons (vr 0) (aNil))) (aCons (dB bAbs (aCons (vr 1) (aNil))) (aNil)))) (sSeq (sWhile (tbl (dTwo (vr 1) (cn (.int 0)) fNe)) (sPar [0, 1] (aCons (vr 1) (aCons (dTwo (vr 0) (vr 1) fMod) (aNil))))) (sRet (vr 0)))
def m_common : TFd := fnD 2 2 t_common
def t_frac : TSd := sSeq (sThru (sAsg (dTwo (vr 1) (dB bAbs (aCons (vr 1) (aNil))) fDiv) (.nm 2)) sNx) (sSeq (sAsg (dTwo (dCall m_common 2 0 (fun ds _ => ds) (aCons (vr 0) (aCons (vr 1) (aNil))) aNil) (vr 2) fMul) (.nm 4)) (sRet (dTup (aCons (dTwo (vr 0) (vr 4) fDiv) (aCons (dTwo (vr 1) (vr 4) fDiv) (aNil))))))
def m_frac : TFd := fnD 2 5 t_frac
def t_plus : TSd := sRet (dCall m_frac 2 0 (fun ds _ => ds ++ []) (aCons (dTwo (dTwo (dTwo (vr 0) (cn (.int 0)) fIx) (dTwo (vr 1) (cn (.int 1)) fIx) fMul) (dTwo (dTwo (vr 1) (cn (.int 0)) fIx) (dTwo (vr 0) (cn (.int 1)) fIx) fMul) fAdd) (aCons (dTwo (dTwo (vr 0) (cn (.int 1)) fIx) (dTwo (vr 1) (cn (.int 1)) fIx) fMul) (aNil))) aNil)
def m_plus : TFd := fnD 2 2 t_plus
def t_whole_root : TSd := sSeq (sIf (tbl (dTwo (vr 0) (cn (.int 0)) fEq)) (sRet (cn (.int 0))) (sNx)) (sSeq (sAsg (dTwo (cn (.int 1)) (dTwo (dTwo (dBits (vr 0)) (cn (.int 1)) fAdd) (cn (.int 2)) fDiv) fShl) (.nm 1)) (sSeq (sWhile (tbl (dTwo (dTwo (vr 1) (vr 1) fMul) (vr 0) fGt)) (sAsg (dTwo (dTwo (vr 1) (dTwo (vr 0) (vr 1) fDiv) fAdd) (cn (.int 2)) fDiv) (.nm 1))) (sRet (vr 1))))
def m_whole_root : TFd := fnD 1 2 t_whole_root
def t_is_square : TSd := sRet (dTwo (dTwo (dCall m_whole_root 1 0 (fun ds _ => ds) (aCons (vr 0) (aNil)) aNil) (cn (.int 2)) fPow) (vr 0) fEq)
def m_is_square : TFd := fnD 1 1 t_is_square
def t_root : TSd := sSeq (sIf (tbl (dTwo (dTwo (vr 2) (cn (.int 0)) fIx) (cn (.int 0)) fLt)) (sRaise "NoRoot") (sNx)) (sSeq (sIf (tOrD (tbl (dTwo (vr 1) (cn (.int 0)) fEq)) (tbl (dTwo (dTwo (vr 2) (cn (.int 0)) fIx) (cn (.int 0)) fEq))) (sRet (dTup (aCons (vr 0) (aCons (cn (.int 0)) (aCons (cn k_ZERO) (aNil)))))) (sNx)) (sSeq (sIf (tAndD (ttr (dCall m_is_square 1 0 (fun ds _ => ds) (aCons (dTwo (vr 2) (cn (.int 0)) fIx) (aNil)) aNil)) (ttr (dCall m_is_square 1 0 (fun ds _ => ds) (aCons (dTwo (vr 2) (cn (.int 1)) fIx) (aNil)) aNil))) (sRet (dTup (aCons (dCall m_plus 2 0 (fun ds _ => ds) (aCons (vr 0) (aCons (dTup (aCons (dTwo (vr 1) (dCall m_whole_root 1 0 (fun ds _ => ds) (aCons (dTwo (vr 2) (cn (.int 0)) fIx) (aNil)) aNil) fMul) (aCons (dCall m_whole_root 1 0 (fun ds _ => ds) (aCons (dTwo (vr 2) (cn (.int 1)) fIx) (aNil)) aNil) (aNil)))) (aNil))) aNil) (aCons (cn (.int 0)) (aCons (cn k_ZERO) (aNil)))))) (sNx)) (sRet (dTup (aCons (vr 0) (aCons (vr 1) (aCons (vr 2) (aNil))))))))
def m_root : TFd := fnD 3 3 t_root
def t_l_cell_at : TSd := sSeq (sIf (tbl (dTwo (vr 1) (dB bLen (aCons (vr 0) (aNil))) fLt)) (sRet (dTwo (vr 0) (vr 1) fIx)) (sNx)) (sRet (cn (.int 0)))
def m_l_cell_at : TFd := fnD 2 2 t_l_cell_at
def t_l_bag : TSd := sSeq (sAsg (dTup (aCons (cn (.int 99991)) (aCons (cn (.int 99971)) (aCons (cn (.int 99961)) (aCons (cn (.int 99929)) (aCons (cn (.int 99923)) (aCons (cn (.int 99907)) (aCons (cn (.int 99901)) (aCons (cn (.int 99881)) (aCons (cn (.int 99877)) (aNil))))))))))) (.nm 2)) (sSeq (sAsg (dCall m_l_cell_at 2 0 (fun ds _ => ds) (aCons (vr 0) (aCons (vr 1) (aNil))) aNil) (.nm 3)) (sSeq (sAsg (dTwo (dTwo (cn (.int 7919)) (vr 1) fMul) (cn (.int 29)) fAdd) (.nm 4)) (sSeq (sFor (iR1 (aCons (cn (.int 9)) (aNil))) (.nm 5) (sSeq (sAsg (dTwo (dTwo (dTwo (dCall m_l_cell_at 2 0 (fun ds _ => ds) (aCons (vr 0) (aCons (dTwo (vr 1) (vr 5) fAdd) (aNil))) aNil) (dTwo (cn (.int 10)) (cn (.int 18)) fPow) fMod) (dTwo (cn (.int 11)) (vr 5) fMul) fAdd) (cn (.int 1)) fAdd) (.nm 6)) (sAsg (dTwo (dTwo (dTwo (vr 4) (cn (.int 48271)) fMul) (dTwo (dTwo (vr 6) (cn (.int 3)) fPow) (dTwo (vr 2) (vr 5) fIx) fMod) fAdd) (cn (.int 2147483629)) fMod) (.nm 4)))) (sSeq (sIf (tbl (dTwo (vr 3) (dTwo (cn (.int 10)) (cn (.int 18)) fPow) fLt)) (sAsg (cn (.int 0)) (.nm 3)) (sNx)) (sRet (dLstR (aCons (vr 3) (aCons (dTwo (vr 4) (cn (.int 1)) fAdd) (aNil)))))))))
def m_l_bag : TFd := fnD 2 7 t_l_bag
def t_l_take : TSd := sSeq (sIf (tbl (dTwo (dTwo (vr 0) (cn (.int 0)) fIx) (cn (.int 0)) fGt)) (sSeq (sAsg (dTwo (dTwo (vr 0) (cn (.int 0)) fIx) (vr 1) fMod) (.nm 2)) (sSeq (sSub (dTwo (dTwo (vr 0) (cn (.int 0)) fIx) (vr 1) fDiv) (vr 0) (cn (.int 0))) (sRet (vr 2)))) (sNx)) (sSeq (sSub (dTwo (dTwo (dTwo (vr 0) (cn (.int 1)) fIx) (cn (.int 48271)) fMul) (cn (.int 2147483647)) fMod) (vr 0) (cn (.int 1))) (sRet (dTwo (dTwo (dTwo (dTwo (dTwo (vr 0) (cn (.int 1)) fIx) (cn (.int 3)) fPow) (cn (.int 2147483629)) fMod) (cn (.int 1000003)) fMod) (vr 1) fMod)))
def m_l_take : TFd := fnD 2 3 t_l_take
def t_sign_of : TSd := sRet (dTwo (dB bInt (aCons (dTwo (vr 0) (cn (.int 0)) fGt) (aNil))) (dB bInt (aCons (dTwo (vr 0) (cn (.int 0)) fLt) (aNil))) fSub)
def m_sign_of : TFd := fnD 1 1 t_sign_of
end Lb

namespace Lb
open PySem PySem.Spec PyProof.Rows L2 Bl
/-! ### how great -/
def sm (n : Nat) (i : Int) : Prop := i.natAbs < 2 ^ n
theorem sm.mono {m n : Nat} {i : Int} (h : sm m i) (l : m ≤ n) : sm n i := Nat.lt_of_lt_of_le h (Nat.pow_le_pow_right (by decide) l)
theorem sm.mul {m n : Nat} {i j : Int} (a : sm m i) (b : sm n j) : sm (m + n) (i * j) := by
  unfold sm at *
  rw [Int.natAbs_mul, Nat.pow_add]
  exact Nat.mul_lt_mul'' a b
theorem sm.add {n : Nat} {i j : Int} (a : sm n i) (b : sm n j) : sm (n + 1) (i + j) := by
  unfold sm at *
  have h := Int.natAbs_add_le i j
  rw [Nat.pow_succ]
  omega
theorem sm.sub {n : Nat} {i j : Int} (a : sm n i) (b : sm n j) : sm (n + 1) (i - j) := by
  unfold sm at *
  rw [Nat.pow_succ]
  omega
theorem sm.neg {n : Nat} {i : Int} (a : sm n i) : sm n (-i) := by unfold sm at *; omega
theorem sm.of {n : Nat} {i : Int} (h : i.natAbs < 2 ^ n) : sm n i := h
theorem log2_le {n k : Nat} (h : n < 2 ^ k) : n.log2 ≤ k := by
  by_cases h0 : n = 0
  · subst h0; simp
  · exact Nat.le_of_lt ((Nat.log2_lt h0).mpr h)
theorem sm.cmul {m n : Nat} {i j : Int} (a : sm m i) (b : sm n j) (h : m + n < 1000000) : CMul' i j := by
  have h1 := log2_le a
  have h2 := log2_le b
  unfold CMul'
  omega
theorem sm.cdiv {n : Nat} {j : Int} (a : sm n j) (h0 : j ≠ 0) (h : n ≤ 9000) : CDiv' j := ⟨h0, Nat.lt_of_lt_of_le ((Nat.log2_lt (by omega)).mpr a) h⟩
theorem sm.bits {n : Nat} {j : Int} (a : sm n j) : Builtin.Int.intBits j ≤ n + 1 := by
  unfold Builtin.Int.intBits
  split
  · omega
  · have := log2_le a
    omega
/-! ### fractions -/
abbrev fr (r : Rat) : D := .tup [.int r.num, .int r.den]
structure sr (k : Nat) (r : Rat) : Prop where
  n : sm k r.num
  d : sm k r.den
theorem sr.mono {m n : Nat} {r : Rat} (h : sr m r) (l : m ≤ n) : sr n r := ⟨h.n.mono l, h.d.mono l⟩
theorem den_pos (r : Rat) : (0 : Int) < r.den := by have := r.den_pos; omega
theorem den_ne (r : Rat) : (r.den : Int) ≠ 0 := by have := r.den_pos; omega
theorem castne {q : Int} (h : q ≠ 0) : (q : Rat) ≠ 0 := fun z => h (Rat.intCast_eq_zero_iff.mp z)
/-- a fraction's parts, of any two whole numbers that make it -/
theorem low_of {p q : Int} {r : Rat} (hq : q ≠ 0) (h : r * q = p) : ∃ t : Int, t = q.sign * (Int.gcd p q) ∧ t ≠ 0 ∧ p = r.num * t ∧ q = r.den * t := by
  have e : r = Rat.divInt p q := by
    rw [Rat.divInt_eq_div, ← h, Rat.mul_div_cancel (castne hq)]
  have g0 : 0 < Int.gcd p q := Int.gcd_pos_of_ne_zero_right _ hq
  have gp : (Int.gcd p q : Int) ∣ p := Int.gcd_dvd_left ..
  have gq : (Int.gcd p q : Int) ∣ q := Int.gcd_dvd_right ..
  have ss : q.sign * q.sign = 1 := by
    rcases Int.lt_or_gt_of_ne hq with z | z
    · rw [Int.sign_eq_neg_one_of_neg z]; rfl
    · rw [Int.sign_eq_one_of_pos z]; rfl
  have sq : q.sign * q = q.natAbs := by
    rcases Int.lt_or_gt_of_ne hq with z | z
    · rw [Int.sign_eq_neg_one_of_neg z]; omega
    · rw [Int.sign_eq_one_of_pos z]; omega
  refine ⟨_, rfl, ?_, ?_, ?_⟩
  · intro z
    rcases Int.mul_eq_zero.mp z with z | z
    · rw [z] at ss; cases ss
    · omega
  · rw [e, Rat.num_divInt, Int.gcd_comm q p]
    have g1 : (Int.gcd p q : Int) ≠ 0 := by omega
    clear e sq gq
    obtain ⟨p', hp⟩ := gp
    generalize (Int.gcd p q : Int) = g at *
    have e1 : q.sign * p = g * (q.sign * p') := by rw [hp]; grind
    rw [e1, Int.mul_ediv_cancel_left _ g1, hp]
    grind
  · rw [e, Rat.den_divInt, if_neg hq, Int.gcd_comm q p, Int.natCast_ediv, ← sq]
    have g1 : (Int.gcd p q : Int) ≠ 0 := by omega
    clear e sq gp
    obtain ⟨q', hq'⟩ := gq
    generalize (Int.gcd p q : Int) = g at *
    generalize q.sign = s at *
    have e1 : s * q = g * (s * q') := by rw [hq']; grind
    rw [e1, Int.mul_ediv_cancel_left _ g1, hq']
    grind
theorem low_sm {p q : Int} {r : Rat} {n m : Nat} (hq : q ≠ 0) (h : r * q = p) (hp : sm n p) (hs : sm m q) : sm n r.num ∧ sm m r.den := by
  obtain ⟨t, _, t0, e1, e2⟩ := low_of hq h
  unfold sm at *
  have t1 : 1 ≤ t.natAbs := by omega
  constructor
  · rw [e1, Int.natAbs_mul] at hp
    exact Nat.lt_of_le_of_lt (Nat.le_mul_of_pos_right _ t1) hp
  · rw [e2, Int.natAbs_mul] at hs
    exact Nat.lt_of_le_of_lt (Nat.le_mul_of_pos_right _ t1) hs
theorem num_den (r : Rat) : r * (r.den : Int) = (r.num : Int) := by
  have h := Rat.num_divInt_den r
  rw [Rat.divInt_eq_div] at h
  have z := Rat.div_mul_cancel (a := (r.num : Rat)) (b := ((r.den : Int) : Rat)) (castne (den_ne r))
  rw [h] at z
  exact z
theorem sr.add {m n : Nat} {a b : Rat} (ha : sr m a) (hb : sr n b) : sr (m + n + 1) (a + b) := by
  have z := low_sm (p := a.num * b.den + b.num * a.den) (q := a.den * b.den) (r := a + b) (n := m + n + 1) (m := m + n) (Int.mul_ne_zero (den_ne a) (den_ne b)) (by
    have e1 := num_den a
    have e2 := num_den b
    simp only [Rat.intCast_mul, Rat.intCast_add]
    grind) (.add (ha.n.mul hb.d) ((hb.n.mul ha.d).mono (by omega))) (ha.d.mul hb.d)
  exact ⟨z.1, z.2.mono (by omega)⟩
theorem sr.neg {m : Nat} {a : Rat} (ha : sr m a) : sr m (-a) := ⟨by rw [Rat.neg_num]; exact ha.n.neg, by rw [Rat.neg_den]; exact ha.d⟩
theorem sr.mul {m n : Nat} {a b : Rat} (ha : sr m a) (hb : sr n b) : sr (m + n) (a * b) := by
  have z := low_sm (p := a.num * b.num) (q := a.den * b.den) (r := a * b) (n := m + n) (m := m + n) (Int.mul_ne_zero (den_ne a) (den_ne b)) (by
    have e1 := num_den a
    have e2 := num_den b
    simp only [Rat.intCast_mul, Rat.intCast_add]
    grind) (ha.n.mul hb.n) (ha.d.mul hb.d)
  exact ⟨z.1, z.2⟩
theorem sr.int {m : Nat} {i : Int} (h : sm m i) (h0 : 0 < m) : sr m (i : Rat) := ⟨h, by show (1 : Int).natAbs < 2 ^ m; have : 2 ^ 1 ≤ 2 ^ m := Nat.pow_le_pow_right (by decide) h0; omega⟩
theorem sr.zero {m : Nat} : sr (m + 1) 0 := ⟨by show (0 : Int).natAbs < _; exact Nat.pow_pos (by decide), by show (1 : Int).natAbs < 2 ^ (m + 1); have : 0 < 2 ^ m := Nat.pow_pos (by decide); rw [Nat.pow_succ]; omega⟩
theorem fr_inj {a b : Rat} (h1 : a.num = b.num) (h2 : (a.den : Int) = b.den) : a = b := Rat.ext h1 (by omega)
theorem eq_fr (a b : Rat) : eqD (fr a) (fr b) = decide (a = b) := by
  show (a.num == b.num && ((a.den : Int) == (b.den : Int) && true)) = _
  rw [Bool.eq_iff_iff]
  simp only [Bool.and_eq_true, beq_iff_eq, and_true, decide_eq_true_eq]
  exact ⟨fun h => fr_inj h.1 h.2, fun h => by rw [h]; exact ⟨rfl, rfl⟩⟩
/-! ### the greatest whole number whose square is no greater -/
def isq : Nat → Nat
  | 0 => 0
  | n + 1 => if (isq n + 1) * (isq n + 1) ≤ n + 1 then isq n + 1 else isq n
theorem isq_spec : ∀ n, isq n * isq n ≤ n ∧ n < (isq n + 1) * (isq n + 1)
  | 0 => by decide
  | n + 1 => by
    obtain ⟨h1, h2⟩ := isq_spec n
    unfold isq
    split
    · rename_i h
      refine ⟨h, ?_⟩
      have e : (isq n + 1 + 1) * (isq n + 1 + 1) = (isq n + 1) * (isq n + 1) + 2 * (isq n) + 3 := by grind
      omega
    · omega
theorem sq_lt {a b : Nat} (h : a * a < b * b) : a < b := by
  rcases Nat.lt_or_ge a b with z | z
  · exact z
  · have := Nat.mul_le_mul z z; omega
theorem isq_uniq {n k : Nat} (h1 : k * k ≤ n) (h2 : n < (k + 1) * (k + 1)) : k = isq n := by
  obtain ⟨g1, g2⟩ := isq_spec n
  have a := sq_lt (Nat.lt_of_le_of_lt h1 g2)
  have b := sq_lt (Nat.lt_of_le_of_lt g1 h2)
  omega
theorem isq_sq (k : Nat) : isq (k * k) = k := by
  refine (isq_uniq (Nat.le_refl _) ?_).symm
  have : (k + 1) * (k + 1) = k * k + 2 * k + 1 := by grind
  omega
theorem isq_pos {n : Nat} (h : 0 < n) : 0 < isq n := by
  obtain ⟨_, g2⟩ := isq_spec n
  rcases Nat.eq_zero_or_pos (isq n) with z | z
  · rw [z] at g2; omega
  · exact z
theorem isq_le (n : Nat) : isq n ≤ n := by
  obtain ⟨g1, _⟩ := isq_spec n
  rcases Nat.eq_zero_or_pos (isq n) with z | z
  · omega
  · have := Nat.le_mul_of_pos_left (isq n) z; omega
/-- a fraction's root, if it is a fraction times itself -/
def sqb (q : Rat) : Prop := ((isq q.num.toNat : Int) * isq q.num.toNat = q.num) ∧ ((isq q.den : Int) * isq q.den = q.den)
instance (q : Rat) : Decidable (sqb q) := by unfold sqb; infer_instance
def sqr (q : Rat) : Rat := ((isq q.num.toNat : Int) : Rat) / ((isq q.den : Int) : Rat)
theorem isq_den (q : Rat) : (isq q.den : Int) ≠ 0 := by have := isq_pos q.den_pos; omega
theorem sqr_mul {q : Rat} (h : sqb q) : sqr q * sqr q = q := by
  obtain ⟨h1, h2⟩ := h
  have e := num_den q
  have d0 := castne (isq_den q)
  have z := Rat.div_mul_cancel (a := ((isq q.num.toNat : Int) : Rat)) d0
  have h1' : ((isq q.num.toNat : Int) : Rat) * ((isq q.num.toNat : Int) : Rat) = (q.num : Rat) := by rw [← Rat.intCast_mul, h1]
  have h2' : ((isq q.den : Int) : Rat) * ((isq q.den : Int) : Rat) = ((q.den : Int) : Rat) := by rw [← Rat.intCast_mul, h2]
  have d1 := castne (den_ne q)
  unfold sqr
  grind
theorem sqr_nonneg (q : Rat) : 0 ≤ sqr q := by
  unfold sqr
  rw [← Rat.divInt_eq_div]
  exact Rat.divInt_nonneg (by omega) (by omega)
theorem sqb_of {q t : Rat} (h : t * t = q) : sqb q := by
  have e := num_den t
  have z : q.num = t.num * t.num ∧ (q.den : Int) = t.den * t.den := by
    subst h
    have h1 := Rat.num_mul t t
    have h2 := Rat.den_mul t t
    have c : Nat.gcd (t.num * t.num).natAbs (t.den * t.den) = 1 := by
      rw [Int.natAbs_mul]
      exact Nat.Coprime.mul_left (Nat.Coprime.mul_right t.reduced t.reduced) (Nat.Coprime.mul_right t.reduced t.reduced)
    rw [c] at h1 h2
    rw [h1, h2]
    simp
  unfold sqb
  rw [z.1]
  have e1 : (t.num * t.num).toNat = t.num.natAbs * t.num.natAbs := by
    have : t.num * t.num = ((t.num.natAbs * t.num.natAbs : Nat) : Int) := by
      have := Int.natAbs_mul_self' t.num
      rw [← this]
      push_cast
      rfl
    rw [this, Int.toNat_natCast]
  have e2 : q.den = t.den * t.den := by have := z.2; exact_mod_cast this
  rw [e1, isq_sq, e2, isq_sq]
  refine ⟨?_, by push_cast; rfl⟩
  have := Int.natAbs_mul_self' t.num
  exact this
theorem sqr_of {q t : Rat} (h : t * t = q) (h0 : 0 ≤ t) : sqr q = t := by
  have h1 := sqr_mul (sqb_of h)
  have h2 := sqr_nonneg q
  have : (sqr q - t) * (sqr q + t) = 0 := by grind
  rcases Rat.mul_eq_zero.mp this with z | z
  · grind
  · have : sqr q = 0 ∧ t = 0 := by grind
    rw [this.1, this.2]
end Lb

namespace Lb
open PySem PySem.Spec PyProof.Rows L2 Bl
theorem atI_0 {α : Type} {x : α} {l : List α} : atI (x :: l) 0 = some x := by
  unfold atI ixN
  simp
theorem atI_1 {α : Type} {x y : α} {l : List α} : atI (x :: y :: l) 1 = some y := atI_nat (j := 1) rfl
theorem atI_2 {α : Type} {x y z : α} {l : List α} : atI (x :: y :: z :: l) 2 = some z := atI_nat (j := 2) rfl
section
variable {i j : Int} {a b : List D} {S : Sto} {Q : DK} {P : Bool → Sto → Prop} {r : Addr} {x : Str} {c : Bool}
theorem truD_bl : truD (.bl c) S P = P c S := rfl
theorem truD_int : truD (.int i) S P = P (i != 0) S := rfl
theorem truD_non : truD .non S P = P false S := rfl
theorem truD_tup : truD (.tup a) S P = P (!a.isEmpty) S := rfl
theorem truD_lst : truD (.lst a) S P = P (!a.isEmpty) S := rfl
theorem truD_str : truD (.str x) S P = (x.length ≤ sizeLine ∧ P ((x.length : Int) != 0) S) := rfl
theorem truD_ref : truD (.ref r) S P = match S r with | some ds => P (!ds.isEmpty) S | none => False := rfl
theorem fAdd_int : fAdd (.int i) (.int j) S Q = Q (.int (i + j)) S := rfl
theorem fAdd_tup : fAdd (.tup a) (.tup b) S Q = (a.length + b.length ≤ sizeLine ∧ Q (.tup (a ++ b)) S) := rfl
theorem fIx_tup : fIx (.tup a) (.int i) S Q = match atI a i with | some d => Q d S | none => False := rfl
theorem fIx_lst : fIx (.lst a) (.int i) S Q = match atI a i with | some d => Q d S | none => False := rfl
theorem fIx_ref : fIx (.ref r) (.int i) S Q = match S r with | some ds => (match atI ds i with | some d => Q d S | none => False) | none => False := rfl
theorem bLen_tup : bLen [.tup a] S Q = Q (.int a.length) S := rfl
theorem bLen_lst : bLen [.lst a] S Q = Q (.int a.length) S := rfl
theorem bLen_ref : bLen [.ref r] S Q = match S r with | some xs => Q (.int xs.length) S | none => False := rfl
theorem bInt_int : bInt [.int i] S Q = Q (.int i) S := rfl
theorem bInt_bl : bInt [.bl c] S Q = Q (.int (if c then 1 else 0)) S := rfl
end
theorem ix20 : ixN 2 0 = some 0 := rfl
theorem ix21 : ixN 2 1 = some 1 := rfl
/-! ### the two tellings of gcd -/
theorem gcd_step {x y : Int} (hx : 0 < x) (hy : 0 ≤ y) : 0 ≤ y.fmod x ∧ y.fmod x < x ∧ Int.gcd (y.fmod x) x = Int.gcd x y := by
  have e : y.fmod x = y % x := Int.fmod_eq_emod_of_nonneg _ (by omega)
  rw [e]
  exact ⟨Int.emod_nonneg _ (by omega), Int.emod_lt_of_pos _ hx, by unfold Int.gcd; rw [Int.natAbs_emod_of_nonneg hy]; exact (Nat.gcd_rec x.natAbs y.natAbs).symm⟩
theorem fdiv_mul {a t : Int} (h : t ≠ 0) : (a * t).fdiv t = a := Int.mul_fdiv_cancel _ h
theorem sm.abs {n : Nat} {p : Int} (h : sm n p) : sm n (if p < 0 then -p else p) := by
  split
  · exact h.neg
  · exact h
theorem low_loop {p q : Int} {n : Nat} {r : Rat} {S : Sto} {N : Nd} (hq : 0 < q) (hp : sm n p) (hs : sm n q) (hn : n ≤ 8900) (h : r * q = p) (k : N.rt (fr r) S) :
    sSeq (sWhile (tbl (dTwo (vr 2) (cn (.int 0)) fGt)) (sPar [2, 3] (aCons (dTwo (vr 3) (vr 2) fMod) (aCons (vr 2) (aNil))))) (sRet (dTup (aCons (dTwo (vr 0) (vr 3) fDiv) (aCons (dTwo (vr 1) (vr 3) fDiv) (aNil)))))
      [some (.int p), some (.int q), some (.int (if p < 0 then -p else p)), some (.int q)] S N := by
  obtain ⟨t, et, t0, e1, e2⟩ := low_of (by omega) h
  rw [Int.sign_eq_one_of_pos hq, Int.one_mul] at et
  simp only [fnD, sNx, sSeq, sRet, sRetN, sDrop, sIf, sBrk, sCnt, sAsg, sPar, sAug, sSub, setD, sThru, asgT, asgL, itemsOf, vr, cn, dTwo, tbl, ttr, truD_bl, truD_int, truD_non, truD_tup, truD_lst, truD_str, truD_ref, tAndD, tOrD, tNotD, vOf, eIf, vNot, dNeg, fAdd_int, fAdd_tup, fSub, fMul, fDiv, fMod, fPow, fShl, fLt, fLe, fGt, fGe, fEq, fNe, fIx_tup, fIx_lst, fIx_ref, aNil, aCons, dTup, dLst, dLstR, dB, bAbs, bLen_tup, bLen_lst, bLen_ref, bMax, bMin, bInt_int, bInt_bl, dBits, dCall, iVal, iR1, iR2, List.map_cons, List.map_nil, List.length_cons, List.length_nil, List.replicate, List.cons_append, List.nil_append, List.append_nil, List.set, List.getElem?_cons_zero, List.getElem?_cons_succ, List.getElem?_nil, atI_0, atI_1, atI_2, ix20, ix21, sup_same, Nat.reduceAdd, Nat.reduceSub, Nat.succ_eq_add_one, decide_eq_true_eq, Bool.not_eq_true', decide_eq_false_iff_not, true_and, and_true, Bool.true_eq_false, Bool.false_eq_true, if_true, if_false, reduceCtorEq]
  refine ⟨fun m e s => ∃ x y : Int, e = [some (.int p), some (.int q), some (.int x), some (.int y)] ∧ s = S ∧ 0 ≤ x ∧ 0 < y ∧ sm n x ∧ sm n y ∧ (Int.gcd x y : Int) = t ∧ m = x.toNat, ⟨_, _, q, rfl, rfl, by split <;> omega, hq, hp.abs, hs, ?_, rfl⟩, ?_⟩
  · rw [et]
    split
    · rw [Int.neg_gcd]
    · rfl
  · rintro m e s ⟨x, y, rfl, rfl, hx, hy, hxs, hys, hg, rfl⟩
    simp only [fnD, sNx, sSeq, sRet, sRetN, sDrop, sIf, sBrk, sCnt, sAsg, sPar, sAug, sSub, setD, sThru, asgT, asgL, itemsOf, vr, cn, dTwo, tbl, ttr, truD_bl, truD_int, truD_non, truD_tup, truD_lst, truD_str, truD_ref, tAndD, tOrD, tNotD, vOf, eIf, vNot, dNeg, fAdd_int, fAdd_tup, fSub, fMul, fDiv, fMod, fPow, fShl, fLt, fLe, fGt, fGe, fEq, fNe, fIx_tup, fIx_lst, fIx_ref, aNil, aCons, dTup, dLst, dLstR, dB, bAbs, bLen_tup, bLen_lst, bLen_ref, bMax, bMin, bInt_int, bInt_bl, dBits, dCall, iVal, iR1, iR2, List.map_cons, List.map_nil, List.length_cons, List.length_nil, List.replicate, List.cons_append, List.nil_append, List.append_nil, List.set, List.getElem?_cons_zero, List.getElem?_cons_succ, List.getElem?_nil, atI_0, atI_1, atI_2, ix20, ix21, sup_same, Nat.reduceAdd, Nat.reduceSub, Nat.succ_eq_add_one, decide_eq_true_eq, Bool.not_eq_true', decide_eq_false_iff_not, true_and, and_true, Bool.true_eq_false, Bool.false_eq_true, if_true, if_false, reduceCtorEq]
    split
    · rename_i hx0
      obtain ⟨g1, g2, g3⟩ := gcd_step hx0 (show 0 ≤ y by omega)
      exact ⟨by omega, (y.fmod x).toNat, by omega, _, x, rfl, g1, hx0, by unfold sm at *; omega, hxs, by rw [g3]; exact hg, rfl⟩
    · have hx1 : x = 0 := by omega
      subst hx1
      rw [Int.gcd_zero_left] at hg
      have hy2 : y = t := by omega
      subst hy2
      have hd : CDiv' y := hys.cdiv (by omega) (by omega)
      refine ⟨hd, hd, by decide, ?_⟩
      have d1 : p.fdiv y = r.num := by rw [e1, fdiv_mul t0]
      have d2 : q.fdiv y = r.den := by rw [e2, fdiv_mul t0]
      rw [d1, d2]
      exact k
abbrev pr (a b : Int) : D := .tup [.int a, .int b]
/-! ### the drawn numbers -/
def Bg (S : Sto) (a : Addr) : Prop := ∃ c m : Int, S a = some [.int c, .int m] ∧ 0 ≤ c ∧ 0 ≤ m ∧ m < 2147483648
def Fr (S S' : Sto) (a : Addr) : Prop := ∀ b, b ≠ a → S' b = S b
theorem Fr.refl (S : Sto) (a : Addr) : Fr S S a := fun _ _ => rfl
theorem Fr.trans {S S1 S2 : Sto} {a : Addr} (h : Fr S S1 a) (k : Fr S1 S2 a) : Fr S S2 a := fun b hb => (k b hb).trans (h b hb)
theorem Fr.sup {S : Sto} {a : Addr} {ds : List D} : Fr S (sup S a ds) a := fun b hb => sup_ne hb
theorem fmod_pos {a b : Int} (h : 0 < b) : 0 ≤ a.fmod b ∧ a.fmod b < b := by
  rw [Int.fmod_eq_emod_of_nonneg _ (by omega)]
  exact ⟨Int.emod_nonneg _ (by omega), Int.emod_lt_of_pos _ h⟩
theorem fdiv_nonneg {a b : Int} (h : 0 < b) (ha : 0 ≤ a) : 0 ≤ a.fdiv b := by
  rw [Int.fdiv_eq_ediv_of_nonneg _ (by omega)]
  exact Int.ediv_nonneg ha (by omega)
theorem take_spec {a : Addr} {many : Int} {S : Sto} {Q : DK} {E : EK} (hb : Bg S a) (h0 : 0 < many) (h1 : sm 9000 many) (k : ∀ d S', 0 ≤ d → d < many → Bg S' a → Fr S S' a → Q (.int d) S') : m_l_take [.ref a, .int many] S Q E := by
  obtain ⟨c, m, e, hc, hm, hm2⟩ := hb
  unfold m_l_take t_l_take
  simp only [e, fnD, sNx, sSeq, sRet, sRetN, sDrop, sIf, sBrk, sCnt, sAsg, sPar, sAug, sSub, setD, sThru, asgT, asgL, itemsOf, vr, cn, dTwo, tbl, ttr, truD_bl, truD_int, truD_non, truD_tup, truD_lst, truD_str, truD_ref, tAndD, tOrD, tNotD, vOf, eIf, vNot, dNeg, fAdd_int, fAdd_tup, fSub, fMul, fDiv, fMod, fPow, fShl, fLt, fLe, fGt, fGe, fEq, fNe, fIx_tup, fIx_lst, fIx_ref, aNil, aCons, dTup, dLst, dLstR, dB, bAbs, bLen_tup, bLen_lst, bLen_ref, bMax, bMin, bInt_int, bInt_bl, dBits, dCall, iVal, iR1, iR2, List.map_cons, List.map_nil, List.length_cons, List.length_nil, List.replicate, List.cons_append, List.nil_append, List.append_nil, List.set, List.getElem?_cons_zero, List.getElem?_cons_succ, List.getElem?_nil, atI_0, atI_1, atI_2, ix20, ix21, sup_same, Nat.reduceAdd, Nat.reduceSub, Nat.succ_eq_add_one, decide_eq_true_eq, Bool.not_eq_true', decide_eq_false_iff_not, true_and, and_true, Bool.true_eq_false, Bool.false_eq_true, if_true, if_false, reduceCtorEq]
  split
  · rename_i hc0
    exact ⟨by omega, h1.cdiv (by omega) (by omega), k _ _ (fmod_pos h0).1 (fmod_pos h0).2 ⟨_, _, sup_same, fdiv_nonneg h0 hc, hm, hm2⟩ Fr.sup⟩
  · have g := fmod_pos (a := m * 48271) (b := 2147483647) (by omega)
    refine ⟨(sm.of (n := 32) (by omega)).cmul (sm.of (n := 32) (by decide)) (by decide), by decide, by decide, ?_, by decide, by decide, by omega, k _ _ (fmod_pos h0).1 (fmod_pos h0).2 ⟨_, _, sup_same, hc, g.1, by omega⟩ Fr.sup⟩
    have z := (sm.of (n := 31) (i := (m * 48271).fmod 2147483647) (by omega)).bits
    omega
theorem sm_k {i : Int} (h : i.natAbs < 2 ^ 8) : sm 9000 i := sm.mono (m := 8) h (by decide)
def rabs (r : Rat) : Rat := if r.num < 0 then -r else r
theorem rabs_num (r : Rat) : (rabs r).num = if r.num < 0 then -r.num else r.num := by
  unfold rabs
  split
  · rfl
  · rfl
theorem rabs_den (r : Rat) : (rabs r).den = r.den := by
  unfold rabs
  split <;> rfl
theorem sr.abs {n : Nat} {r : Rat} (h : sr n r) : sr n (rabs r) := ⟨by rw [rabs_num]; exact h.n.abs, by rw [rabs_den]; exact h.d⟩
theorem sq_nonneg (r : Rat) : 0 ≤ r * r := by
  rcases Rat.le_total (a := 0) (b := r) with h | h
  · exact Rat.mul_nonneg h h
  · have : r * r = (-r) * (-r) := by grind
    rw [this]
    exact Rat.mul_nonneg (by grind) (by grind)
/-! ### roots of whole numbers -/
theorem isq_of {n f : Int} (h0 : 0 ≤ f) (h1 : f * f ≤ n) (h2 : n < (f + 1) * (f + 1)) : f = (isq n.toNat : Int) := by
  obtain ⟨m, rfl⟩ := Int.eq_ofNat_of_zero_le h0
  have hn : 0 ≤ n := Int.le_trans (Int.mul_nonneg h0 h0) h1
  obtain ⟨k, rfl⟩ := Int.eq_ofNat_of_zero_le hn
  rw [Int.toNat_natCast]
  have := isq_uniq (n := k) (k := m) (by exact_mod_cast h1) (by exact_mod_cast h2)
  omega
theorem sqi {f n : Int} (h : 0 ≤ f) : f ^ (2 : Int).toNat = f * f := by
  show f ^ 2 = f * f
  rw [Int.pow_succ, Int.pow_succ, Int.pow_zero, Int.one_mul]
theorem eq_int (i j : Int) : eqD (.int i) (.int j) = decide (i = j) := by
  show (i == j) = _
  rw [Bool.eq_iff_iff]
  simp
theorem ok_int (i : Int) : okD (.int i) := ⟨rfl, rfl⟩
theorem bits_lt (n : Int) : n.natAbs < 2 ^ Builtin.Int.intBits n := by
  unfold Builtin.Int.intBits
  split
  · rename_i h
    have : n = 0 := by simpa using h
    subst this
    decide
  · rename_i h
    have h0 : n.natAbs ≠ 0 := by
      intro z
      apply h
      have : n = 0 := by omega
      rw [this]
      rfl
    exact (Nat.log2_lt h0).mp (Nat.lt_succ_self _)
theorem whole_root_spec {n : Int} {m : Nat} {S : Sto} {Q : DK} {E : EK} (h0 : 0 ≤ n) (hs : sm m n) (hm : m ≤ 17000) (k : Q (.int (isq n.toNat)) S) : m_whole_root [.int n] S Q E := by
  unfold m_whole_root t_whole_root
  simp only [eq_int, fnD, sNx, sSeq, sRet, sRetN, sDrop, sIf, sBrk, sCnt, sAsg, sPar, sAug, sSub, setD, sThru, asgT, asgL, itemsOf, vr, cn, dTwo, tbl, ttr, truD_bl, truD_int, truD_non, truD_tup, truD_lst, truD_str, truD_ref, tAndD, tOrD, tNotD, vOf, eIf, vNot, dNeg, fAdd_int, fAdd_tup, fSub, fMul, fDiv, fMod, fPow, fShl, fLt, fLe, fGt, fGe, fEq, fNe, fIx_tup, fIx_lst, fIx_ref, aNil, aCons, dTup, dLst, dLstR, dB, bAbs, bLen_tup, bLen_lst, bLen_ref, bMax, bMin, bInt_int, bInt_bl, dBits, dCall, iVal, iR1, iR2, List.map_cons, List.map_nil, List.length_cons, List.length_nil, List.replicate, List.cons_append, List.nil_append, List.append_nil, List.set, List.getElem?_cons_zero, List.getElem?_cons_succ, List.getElem?_nil, atI_0, atI_1, atI_2, ix20, ix21, sup_same, Nat.reduceAdd, Nat.reduceSub, Nat.succ_eq_add_one, decide_eq_true_eq, Bool.not_eq_true', decide_eq_false_iff_not, true_and, and_true, Bool.true_eq_false, Bool.false_eq_true, if_true, if_false, reduceCtorEq]
  refine ⟨ok_int _, ok_int _, ?_⟩
  split
  · rename_i h
    subst h
    exact k
  · rename_i hn
    have hb := hs.bits
    have hlt := bits_lt n
    refine ⟨⟨by decide, by decide⟩, ⟨?_, ?_, by decide⟩, ?_⟩
    · exact fdiv_nonneg (by omega) (by omega)
    · rw [Int.fdiv_eq_ediv_of_nonneg _ (by omega)]
      omega
    · have e0 : ((((Builtin.Int.intBits n : Nat) : Int) + 1).fdiv 2).toNat = (Builtin.Int.intBits n + 1) / 2 := by
        rw [Int.fdiv_eq_ediv_of_nonneg _ (by omega)]
        omega
      rw [e0, Int.one_mul]
      generalize hh : (Builtin.Int.intBits n + 1) / 2 = h at *
      have hp : n < 2 ^ h * 2 ^ h := by
        have : n.natAbs < 2 ^ (h + h) := Nat.lt_of_lt_of_le hlt (Nat.pow_le_pow_right (by decide) (by omega))
        rw [Nat.pow_add] at this
        have e : n = (n.natAbs : Int) := by omega
        rw [e]
        exact_mod_cast this
      have hpp : (0 : Int) < 2 ^ h := Int.pow_pos (by decide)
      have hps : sm (m / 2 + 2) (2 ^ h) := by
        unfold sm
        rw [Int.natAbs_pow]
        exact Nat.pow_lt_pow_right (by decide) (by omega)
      have hnn : 0 < n := by omega
      clear hlt e0
      refine ⟨fun j e s => ∃ f : Int, e = [some (.int n), some (.int f)] ∧ s = S ∧ 0 < f ∧ n < (f + 1) * (f + 1) ∧ sm (m / 2 + 2) f ∧ j = f.toNat, ⟨_, 2 ^ h, rfl, rfl, hpp, ?_, hps, rfl⟩, ?_⟩
      · have : (2 ^ h + 1 : Int) * (2 ^ h + 1) = 2 ^ h * 2 ^ h + 2 * 2 ^ h + 1 := by grind
        omega
      · rintro j e s ⟨f, rfl, rfl, f0, f1, f2, rfl⟩
        simp only [fnD, sNx, sSeq, sRet, sRetN, sDrop, sIf, sBrk, sCnt, sAsg, sPar, sAug, sSub, setD, sThru, asgT, asgL, itemsOf, vr, cn, dTwo, tbl, ttr, truD_bl, truD_int, truD_non, truD_tup, truD_lst, truD_str, truD_ref, tAndD, tOrD, tNotD, vOf, eIf, vNot, dNeg, fAdd_int, fAdd_tup, fSub, fMul, fDiv, fMod, fPow, fShl, fLt, fLe, fGt, fGe, fEq, fNe, fIx_tup, fIx_lst, fIx_ref, aNil, aCons, dTup, dLst, dLstR, dB, bAbs, bLen_tup, bLen_lst, bLen_ref, bMax, bMin, bInt_int, bInt_bl, dBits, dCall, iVal, iR1, iR2, List.map_cons, List.map_nil, List.length_cons, List.length_nil, List.replicate, List.cons_append, List.nil_append, List.append_nil, List.set, List.getElem?_cons_zero, List.getElem?_cons_succ, List.getElem?_nil, atI_0, atI_1, atI_2, ix20, ix21, sup_same, Nat.reduceAdd, Nat.reduceSub, Nat.succ_eq_add_one, decide_eq_true_eq, Bool.not_eq_true', decide_eq_false_iff_not, true_and, and_true, Bool.true_eq_false, Bool.false_eq_true, if_true, if_false, reduceCtorEq]
        refine ⟨f2.cmul f2 (by omega), ?_⟩
        split
        · rename_i hc
          refine ⟨f2.cdiv (by omega) (by omega), ⟨by decide, by decide⟩, ?_⟩
          rw [Int.fdiv_eq_ediv_of_nonneg n (by omega), Int.fdiv_eq_ediv_of_nonneg _ (by omega)]
          have d1 : n / f * f ≤ n := Int.ediv_mul_le n (by omega)
          have d2 : n < (n / f + 1) * f := Int.lt_ediv_add_one_mul_self n f0
          have d0 : 0 ≤ n / f := Int.ediv_nonneg h0 (by omega)
          generalize n / f = g at *
          have d3 : g < f := by
            rcases Int.lt_or_le g f with z | z
            · exact z
            · have := Int.mul_le_mul_of_nonneg_right z (show 0 ≤ f by omega)
              omega
          obtain ⟨u, hu⟩ : ∃ u, u = (f + g) / 2 := ⟨_, rfl⟩
          rw [← hu]
          have u1 : f + g ≤ 2 * u + 1 := by omega
          have u2 : u < f := by omega
          have u3 : n < (u + 1) * (u + 1) := by
            have a1 : (f + g + 1) * f ≤ (2 * (u + 1)) * f := Int.mul_le_mul_of_nonneg_right (by omega) (by omega)
            have a2 : 0 ≤ (u + 1 - f) * (u + 1 - f) := by
              rcases Int.le_total 0 (u + 1 - f) with z | z
              · exact Int.mul_nonneg z z
              · exact Int.mul_nonneg_of_nonpos_of_nonpos z z
            have a3 : (f + g + 1) * f = f * f + (g + 1) * f := by grind
            have a4 : (u + 1) * (u + 1) = 2 * (u + 1) * f - f * f + (u + 1 - f) * (u + 1 - f) := by grind
            omega
          have u4 : 0 < u := by
            rcases Int.lt_or_le 0 u with z | z
            · exact z
            · have : u = 0 := by omega
              rw [this] at u3
              omega
          exact ⟨u.toNat, by omega, u, rfl, u4, u3, by unfold sm at *; omega, rfl⟩
        · rename_i hc
          rw [← isq_of (by omega) (by omega) f1] at k
          exact k
theorem isq_sm {n : Int} {m : Nat} (h0 : 0 ≤ n) (h : sm m n) : sm m (isq n.toNat) := by
  have := isq_le n.toNat
  unfold sm at *
  omega
theorem is_square_spec {n : Int} {m : Nat} {S : Sto} {Q : DK} {E : EK} (h0 : 0 ≤ n) (hs : sm m n) (hm : m ≤ 17000) (k : Q (.bl (decide ((isq n.toNat : Int) * isq n.toNat = n))) S) : m_is_square [.int n] S Q E := by
  unfold m_is_square t_is_square
  simp only [fnD, sNx, sSeq, sRet, sRetN, sDrop, sIf, sBrk, sCnt, sAsg, sPar, sAug, sSub, setD, sThru, asgT, asgL, itemsOf, vr, cn, dTwo, tbl, ttr, truD_bl, truD_int, truD_non, truD_tup, truD_lst, truD_str, truD_ref, tAndD, tOrD, tNotD, vOf, eIf, vNot, dNeg, fAdd_int, fAdd_tup, fSub, fMul, fDiv, fMod, fPow, fShl, fLt, fLe, fGt, fGe, fEq, fNe, fIx_tup, fIx_lst, fIx_ref, aNil, aCons, dTup, dLst, dLstR, dB, bAbs, bLen_tup, bLen_lst, bLen_ref, bMax, bMin, bInt_int, bInt_bl, dBits, dCall, iVal, iR1, iR2, List.map_cons, List.map_nil, List.length_cons, List.length_nil, List.replicate, List.cons_append, List.nil_append, List.append_nil, List.set, List.getElem?_cons_zero, List.getElem?_cons_succ, List.getElem?_nil, atI_0, atI_1, atI_2, ix20, ix21, sup_same, Nat.reduceAdd, Nat.reduceSub, Nat.succ_eq_add_one, decide_eq_true_eq, Bool.not_eq_true', decide_eq_false_iff_not, true_and, and_true, Bool.true_eq_false, Bool.false_eq_true, if_true, if_false, reduceCtorEq]
  refine whole_root_spec h0 hs hm ?_
  have z := (isq_sm h0 hs).bits
  simp only [eq_int, fnD, sNx, sSeq, sRet, sRetN, sDrop, sIf, sBrk, sCnt, sAsg, sPar, sAug, sSub, setD, sThru, asgT, asgL, itemsOf, vr, cn, dTwo, tbl, ttr, truD_bl, truD_int, truD_non, truD_tup, truD_lst, truD_str, truD_ref, tAndD, tOrD, tNotD, vOf, eIf, vNot, dNeg, fAdd_int, fAdd_tup, fSub, fMul, fDiv, fMod, fPow, fShl, fLt, fLe, fGt, fGe, fEq, fNe, fIx_tup, fIx_lst, fIx_ref, aNil, aCons, dTup, dLst, dLstR, dB, bAbs, bLen_tup, bLen_lst, bLen_ref, bMax, bMin, bInt_int, bInt_bl, dBits, dCall, iVal, iR1, iR2, List.map_cons, List.map_nil, List.length_cons, List.length_nil, List.replicate, List.cons_append, List.nil_append, List.append_nil, List.set, List.getElem?_cons_zero, List.getElem?_cons_succ, List.getElem?_nil, atI_0, atI_1, atI_2, ix20, ix21, sup_same, Nat.reduceAdd, Nat.reduceSub, Nat.succ_eq_add_one, decide_eq_true_eq, Bool.not_eq_true', decide_eq_false_iff_not, true_and, and_true, Bool.true_eq_false, Bool.false_eq_true, if_true, if_false, reduceCtorEq]
  rw [sqi (n := n) (by omega)]
  exact ⟨by decide, by omega, ok_int _, ok_int _, k⟩
end Lb

namespace Lb
open PySem PySem.Spec PyProof.Rows L2 Bl
/-! ### roots of fractions -/
structure Rt where
  b : Rat
  s : Int
  q : Rat
abbrev rt (x : Rt) : D := .tup [fr x.b, .int x.s, fr x.q]
def canon (b : Rat) (s : Int) (q : Rat) : Rt := if s = 0 ∨ q = 0 then ⟨b, 0, 0⟩ else if sqb q then ⟨b + s * sqr q, 0, 0⟩ else ⟨b, s, q⟩
/-! ### the program's fractions -/
theorem common_spec {p q : Int} {n : Nat} {S : Sto} {Q : DK} {E : EK} (hp : sm n p) (hq : sm n q) (k : Q (.int (Int.gcd p q)) S) : m_common [.int p, .int q] S Q E := by
  unfold m_common t_common
  simp only [fnD, sNx, sSeq, sRet, sRetN, sDrop, sIf, sBrk, sCnt, sAsg, sPar, sAug, sSub, setD, sThru, asgT, asgL, itemsOf, vr, cn, dTwo, tbl, ttr, truD_bl, truD_int, truD_non, truD_tup, truD_lst, truD_str, truD_ref, tAndD, tOrD, tNotD, vOf, eIf, vNot, dNeg, fAdd_int, fAdd_tup, fSub, fMul, fDiv, fMod, fPow, fShl, fLt, fLe, fGt, fGe, fEq, fNe, fIx_tup, fIx_lst, fIx_ref, aNil, aCons, dTup, dLst, dLstR, dB, bAbs, bLen_tup, bLen_lst, bLen_ref, bMax, bMin, bInt_int, bInt_bl, dBits, dCall, iVal, iR1, iR2, List.map_cons, List.map_nil, List.length_cons, List.length_nil, List.replicate, List.cons_append, List.nil_append, List.append_nil, List.set, List.getElem?_cons_zero, List.getElem?_cons_succ, List.getElem?_nil, atI_0, atI_1, atI_2, ix20, ix21, sup_same, Nat.reduceAdd, Nat.reduceSub, Nat.succ_eq_add_one, decide_eq_true_eq, Bool.not_eq_true', decide_eq_false_iff_not, true_and, and_true, Bool.true_eq_false, Bool.false_eq_true, if_true, if_false, reduceCtorEq]
  refine ⟨fun m e s => ∃ x y : Int, e = [some (.int x), some (.int y)] ∧ s = S ∧ 0 ≤ x ∧ 0 ≤ y ∧ (Int.gcd x y) = Int.gcd p q ∧ m = y.toNat, ⟨_, _, _, rfl, rfl, by split <;> omega, by split <;> omega, ?_, rfl⟩, ?_⟩
  · split <;> split <;> simp only [Int.neg_gcd, Int.gcd_neg]
  · rintro m e s ⟨x, y, rfl, rfl, hx, hy, hg, rfl⟩
    simp only [eq_int, fnD, sNx, sSeq, sRet, sRetN, sDrop, sIf, sBrk, sCnt, sAsg, sPar, sAug, sSub, setD, sThru, asgT, asgL, itemsOf, vr, cn, dTwo, tbl, ttr, truD_bl, truD_int, truD_non, truD_tup, truD_lst, truD_str, truD_ref, tAndD, tOrD, tNotD, vOf, eIf, vNot, dNeg, fAdd_int, fAdd_tup, fSub, fMul, fDiv, fMod, fPow, fShl, fLt, fLe, fGt, fGe, fEq, fNe, fIx_tup, fIx_lst, fIx_ref, aNil, aCons, dTup, dLst, dLstR, dB, bAbs, bLen_tup, bLen_lst, bLen_ref, bMax, bMin, bInt_int, bInt_bl, dBits, dCall, iVal, iR1, iR2, List.map_cons, List.map_nil, List.length_cons, List.length_nil, List.replicate, List.cons_append, List.nil_append, List.append_nil, List.set, List.getElem?_cons_zero, List.getElem?_cons_succ, List.getElem?_nil, atI_0, atI_1, atI_2, ix20, ix21, sup_same, Nat.reduceAdd, Nat.reduceSub, Nat.succ_eq_add_one, decide_eq_true_eq, Bool.not_eq_true', decide_eq_false_iff_not, true_and, and_true, Bool.true_eq_false, Bool.false_eq_true, if_true, if_false, reduceCtorEq]
    refine ⟨ok_int _, ok_int _, ?_⟩
    by_cases h : y = 0
    · subst h
      rw [Int.gcd_zero_right] at hg
      have : x = ((Int.gcd p q : Nat) : Int) := by omega
      rw [← this] at k
      simpa using k
    · obtain ⟨g1, g2, g3⟩ := gcd_step (show 0 < y by omega) hx
      rw [if_pos (by simpa using h)]
      exact ⟨h, (x.fmod y).toNat, by omega, y, _, rfl, hy, g1, by rw [Int.gcd_comm, g3, Int.gcd_comm]; exact hg, rfl⟩
theorem frac_spec {p q : Int} {n : Nat} {r : Rat} {S : Sto} {Q : DK} {E : EK} (hq : q ≠ 0) (hp : sm n p) (hs : sm n q) (hn : n ≤ 8900) (h : r * q = p) (k : Q (fr r) S) : m_frac [.int p, .int q] S Q E := by
  unfold m_frac t_frac
  simp only [fnD, sNx, sSeq, sRet, sRetN, sDrop, sIf, sBrk, sCnt, sAsg, sPar, sAug, sSub, setD, sThru, asgT, asgL, itemsOf, vr, cn, dTwo, tbl, ttr, truD_bl, truD_int, truD_non, truD_tup, truD_lst, truD_str, truD_ref, tAndD, tOrD, tNotD, vOf, eIf, vNot, dNeg, fAdd_int, fAdd_tup, fSub, fMul, fDiv, fMod, fPow, fShl, fLt, fLe, fGt, fGe, fEq, fNe, fIx_tup, fIx_lst, fIx_ref, aNil, aCons, dTup, dLst, dLstR, dB, bAbs, bLen_tup, bLen_lst, bLen_ref, bMax, bMin, bInt_int, bInt_bl, dBits, dCall, iVal, iR1, iR2, List.map_cons, List.map_nil, List.length_cons, List.length_nil, List.replicate, List.cons_append, List.nil_append, List.append_nil, List.set, List.getElem?_cons_zero, List.getElem?_cons_succ, List.getElem?_nil, atI_0, atI_1, atI_2, ix20, ix21, sup_same, Nat.reduceAdd, Nat.reduceSub, Nat.succ_eq_add_one, decide_eq_true_eq, Bool.not_eq_true', decide_eq_false_iff_not, true_and, and_true, Bool.true_eq_false, Bool.false_eq_true, if_true, if_false, reduceCtorEq]
  obtain ⟨t, et, t0, e1, e2⟩ := low_of hq h
  have es : q.fdiv (if q < 0 then -q else q) = q.sign := by
    split
    · rename_i hq0
      rw [Int.sign_eq_neg_one_of_neg hq0]
      have := fdiv_mul (a := -1) (t := -q) (by omega)
      rw [← this]
      congr 1
      omega
    · rename_i hq0
      rw [Int.sign_eq_one_of_pos (by omega), Int.fdiv_self (by omega)]
  rw [es]
  refine ⟨hs.abs.cdiv (by split <;> omega) (by omega), common_spec hp hs ?_⟩
  simp only [fnD, sNx, sSeq, sRet, sRetN, sDrop, sIf, sBrk, sCnt, sAsg, sPar, sAug, sSub, setD, sThru, asgT, asgL, itemsOf, vr, cn, dTwo, tbl, ttr, truD_bl, truD_int, truD_non, truD_tup, truD_lst, truD_str, truD_ref, tAndD, tOrD, tNotD, vOf, eIf, vNot, dNeg, fAdd_int, fAdd_tup, fSub, fMul, fDiv, fMod, fPow, fShl, fLt, fLe, fGt, fGe, fEq, fNe, fIx_tup, fIx_lst, fIx_ref, aNil, aCons, dTup, dLst, dLstR, dB, bAbs, bLen_tup, bLen_lst, bLen_ref, bMax, bMin, bInt_int, bInt_bl, dBits, dCall, iVal, iR1, iR2, List.map_cons, List.map_nil, List.length_cons, List.length_nil, List.replicate, List.cons_append, List.nil_append, List.append_nil, List.set, List.getElem?_cons_zero, List.getElem?_cons_succ, List.getElem?_nil, atI_0, atI_1, atI_2, ix20, ix21, sup_same, Nat.reduceAdd, Nat.reduceSub, Nat.succ_eq_add_one, decide_eq_true_eq, Bool.not_eq_true', decide_eq_false_iff_not, true_and, and_true, Bool.true_eq_false, Bool.false_eq_true, if_true, if_false, reduceCtorEq]
  have g1 : sm n (Int.gcd p q) := by
    have : Int.gcd p q ≤ q.natAbs := Nat.le_of_dvd (by omega) (Nat.gcd_dvd_right ..)
    unfold sm at *
    omega
  have g2 : sm 1 q.sign := by
    unfold sm
    rcases Int.lt_or_gt_of_ne hq with z | z
    · rw [Int.sign_eq_neg_one_of_neg z]; decide
    · rw [Int.sign_eq_one_of_pos z]; decide
  refine ⟨g1.cmul g2 (by omega), ?_⟩
  rw [Int.mul_comm, ← et]
  have ht : sm (n + 1) t := by rw [et]; exact (g2.mul g1).mono (by omega)
  have hd : CDiv' t := ht.cdiv t0 (by omega)
  have d1 : p.fdiv t = r.num := by rw [e1, fdiv_mul t0]
  have d2 : q.fdiv t = r.den := by rw [e2, fdiv_mul t0]
  rw [d1, d2]
  exact ⟨hd, hd, by decide, k⟩
theorem plus_spec {a b c d : Int} {n : Nat} {r : Rat} {S : Sto} {Q : DK} {E : EK} (hb : b ≠ 0) (hd : d ≠ 0) (ha : sm n a) (hb' : sm n b) (hc : sm n c) (hd' : sm n d) (hn : n ≤ 4440) (h : r * (b * d : Int) = (a * d + c * b : Int)) (k : Q (fr r) S) : m_plus [pr a b, pr c d] S Q E := by
  unfold m_plus t_plus
  simp only [fnD, sNx, sSeq, sRet, sRetN, sDrop, sIf, sBrk, sCnt, sAsg, sPar, sAug, sSub, setD, sThru, asgT, asgL, itemsOf, vr, cn, dTwo, tbl, ttr, truD_bl, truD_int, truD_non, truD_tup, truD_lst, truD_str, truD_ref, tAndD, tOrD, tNotD, vOf, eIf, vNot, dNeg, fAdd_int, fAdd_tup, fSub, fMul, fDiv, fMod, fPow, fShl, fLt, fLe, fGt, fGe, fEq, fNe, fIx_tup, fIx_lst, fIx_ref, aNil, aCons, dTup, dLst, dLstR, dB, bAbs, bLen_tup, bLen_lst, bLen_ref, bMax, bMin, bInt_int, bInt_bl, dBits, dCall, iVal, iR1, iR2, List.map_cons, List.map_nil, List.length_cons, List.length_nil, List.replicate, List.cons_append, List.nil_append, List.append_nil, List.set, List.getElem?_cons_zero, List.getElem?_cons_succ, List.getElem?_nil, atI_0, atI_1, atI_2, ix20, ix21, sup_same, Nat.reduceAdd, Nat.reduceSub, Nat.succ_eq_add_one, decide_eq_true_eq, Bool.not_eq_true', decide_eq_false_iff_not, true_and, and_true, Bool.true_eq_false, Bool.false_eq_true, if_true, if_false, reduceCtorEq]
  refine ⟨ha.cmul hd' (by omega), hc.cmul hb' (by omega), hb'.cmul hd' (by omega), ?_⟩
  exact frac_spec (n := n + n + 1) (Int.mul_ne_zero hb hd) ((ha.mul hd').add (hc.mul hb')) ((hb'.mul hd').mono (by omega)) (by omega) h k
theorem sign_of_spec {i : Int} {S : Sto} {Q : DK} {E : EK} (k : Q (.int i.sign) S) : m_sign_of [.int i] S Q E := by
  unfold m_sign_of t_sign_of
  simp only [fnD, sNx, sSeq, sRet, sRetN, sDrop, sIf, sBrk, sCnt, sAsg, sPar, sAug, sSub, setD, sThru, asgT, asgL, itemsOf, vr, cn, dTwo, tbl, ttr, truD_bl, truD_int, truD_non, truD_tup, truD_lst, truD_str, truD_ref, tAndD, tOrD, tNotD, vOf, eIf, vNot, dNeg, fAdd_int, fAdd_tup, fSub, fMul, fDiv, fMod, fPow, fShl, fLt, fLe, fGt, fGe, fEq, fNe, fIx_tup, fIx_lst, fIx_ref, aNil, aCons, dTup, dLst, dLstR, dB, bAbs, bLen_tup, bLen_lst, bLen_ref, bMax, bMin, bInt_int, bInt_bl, dBits, dCall, iVal, iR1, iR2, List.map_cons, List.map_nil, List.length_cons, List.length_nil, List.replicate, List.cons_append, List.nil_append, List.append_nil, List.set, List.getElem?_cons_zero, List.getElem?_cons_succ, List.getElem?_nil, atI_0, atI_1, atI_2, ix20, ix21, sup_same, Nat.reduceAdd, Nat.reduceSub, Nat.succ_eq_add_one, decide_eq_true_eq, Bool.not_eq_true', decide_eq_false_iff_not, true_and, and_true, Bool.true_eq_false, Bool.false_eq_true, if_true, if_false, reduceCtorEq]
  have : ((if 0 < i then 1 else 0) - (if i < 0 then 1 else 0) : Int) = i.sign := by
    rcases Int.lt_trichotomy i 0 with z | z | z
    · rw [Int.sign_eq_neg_one_of_neg z, if_neg (by omega), if_pos z]; rfl
    · subst z; rfl
    · rw [Int.sign_eq_one_of_pos z, if_pos z, if_neg (by omega)]; rfl
  rw [this]
  exact k
theorem root_two {b q : Rat} {s : Int} {n : Nat} {S : Sto} {N : Nd} (hb : sr n b) (hq : sr n q) (hn0 : 0 ≤ q.num) (hs : s = -1 ∨ s = 0 ∨ s = 1) (hn : n ≤ 4400) (k : N.rt (rt ⟨b + s * sqr q, 0, 0⟩) S) :
    (sRet (dTup (aCons (dCall m_plus 2 0 (fun ds _ => ds) (aCons (vr 0) (aCons (dTup (aCons (dTwo (vr 1) (dCall m_whole_root 1 0 (fun ds _ => ds) (aCons (dTwo (vr 2) (cn (.int 0)) fIx) (aNil)) aNil) fMul) (aCons (dCall m_whole_root 1 0 (fun ds _ => ds) (aCons (dTwo (vr 2) (cn (.int 1)) fIx) (aNil)) aNil) (aNil)))) (aNil))) aNil) (aCons (cn (.int 0)) (aCons (cn k_ZERO) (aNil)))))) [some (fr b), some (.int s), some (fr q)] S N := by
  have s1 := isq_sm hn0 hq.n
  have s2 : sm n (isq q.den) := isq_sm (n := q.den) (by omega) hq.d
  have ss : sm 1 s := by unfold sm; omega
  refine ⟨rfl, rfl, whole_root_spec hn0 hq.n (by omega) ⟨ss.cmul s1 (by omega), ?_⟩⟩
  refine ⟨rfl, rfl, whole_root_spec (n := q.den) (by omega) hq.d (by omega) ⟨by show 2 ≤ sizeLine; decide, ?_⟩⟩
  refine ⟨rfl, rfl, ?_⟩
  rw [Int.toNat_natCast]
  refine plus_spec (n := n + 1) (r := b + s * sqr q) (den_ne b) (isq_den q) (hb.n.mono (by omega)) (hb.d.mono (by omega)) ((ss.mul s1).mono (by omega)) (s2.mono (by omega)) (by omega) ?_ ⟨by show 3 ≤ sizeLine; decide, k⟩
  have e1 := num_den b
  have e3 : sqr q * ((isq q.den : Int) : Rat) = ((isq q.num.toNat : Int) : Rat) := Rat.div_mul_cancel (castne (isq_den q))
  simp only [Rat.intCast_mul, Rat.intCast_add]
  grind
theorem root_spec {b q : Rat} {s : Int} {n : Nat} {S : Sto} {Q : DK} {E : EK} (hb : sr n b) (hq : sr n q) (hq0 : 0 ≤ q) (hs : s = -1 ∨ s = 0 ∨ s = 1) (hn : n ≤ 4400) (k : Q (rt (canon b s q)) S) : m_root [fr b, .int s, fr q] S Q E := by
  have z0 : q.num = 0 ↔ q = 0 := Rat.num_eq_zero
  have hn0 : 0 ≤ q.num := Rat.num_nonneg.mpr hq0
  have two := fun N => @root_two b q s n S N hb hq hn0 hs hn
  unfold m_root t_root
  revert two
  generalize sRet (dTup (aCons (dCall m_plus 2 0 (fun ds _ => ds) (aCons (vr 0) (aCons (dTup (aCons (dTwo (vr 1) (dCall m_whole_root 1 0 (fun ds _ => ds) (aCons (dTwo (vr 2) (cn (.int 0)) fIx) (aNil)) aNil) fMul) (aCons (dCall m_whole_root 1 0 (fun ds _ => ds) (aCons (dTwo (vr 2) (cn (.int 1)) fIx) (aNil)) aNil) (aNil)))) (aNil))) aNil) (aCons (cn (.int 0)) (aCons (cn k_ZERO) (aNil))))) = R2
  intro two
  unfold canon at k
  refine ⟨rfl, ?_⟩
  show if decide (q.num < 0) = true then _ else _
  rw [if_neg (by simpa using hn0)]
  refine ⟨ok_int _, ok_int _, ?_⟩
  rw [eq_int]
  show if decide (s = 0) = true then _ else _
  by_cases h : s = 0
  · rw [if_pos (decide_eq_true h)]
    rw [if_pos (.inl h)] at k
    exact ⟨by show 3 ≤ sizeLine; decide, k⟩
  · rw [if_neg (by simpa using h)]
    refine ⟨ok_int _, ok_int _, ?_⟩
    rw [eq_int]
    show if decide (q.num = 0) = true then _ else _
    by_cases h2 : q.num = 0
    · rw [if_pos (decide_eq_true h2)]
      rw [if_pos (.inr (z0.mp h2))] at k
      exact ⟨by show 3 ≤ sizeLine; decide, k⟩
    · rw [if_neg (by simpa using h2)]
      rw [if_neg (fun z => z.elim h fun z => h2 (z0.mpr z))] at k
      refine ⟨rfl, rfl, is_square_spec hn0 hq.n (by omega) ?_⟩
      show if decide _ = true then _ else _
      by_cases h3 : (isq q.num.toNat : Int) * isq q.num.toNat = q.num
      · rw [if_pos (decide_eq_true h3)]
        refine ⟨rfl, rfl, is_square_spec (n := q.den) (by omega) hq.d (by omega) ?_⟩
        rw [Int.toNat_natCast]
        show if decide _ = true then _ else _
        by_cases h4 : (isq q.den : Int) * isq q.den = q.den
        · rw [if_pos (decide_eq_true h4)]
          rw [if_pos ⟨h3, h4⟩] at k
          exact two _ k
        · rw [if_neg (by simpa using h4)]
          rw [if_neg fun z => h4 z.2] at k
          exact ⟨by show 3 ≤ sizeLine; decide, k⟩
      · rw [if_neg (by simpa using h3)]
        rw [if_neg fun z => h3 z.1] at k
        exact ⟨by show 3 ≤ sizeLine; decide, k⟩
theorem num_sign (r : Rat) : r.num.sign = -1 ∨ r.num.sign = 0 ∨ r.num.sign = 1 := by
  rcases Int.lt_trichotomy r.num 0 with z | z | z
  · rw [Int.sign_eq_neg_one_of_neg z]; simp
  · rw [z]; simp
  · rw [Int.sign_eq_one_of_pos z]; simp
theorem vr_go {i : Nat} {env : Ev} {d : D} {S : Sto} {Q : DK} {E : EK} (h : env[i]? = some (some d)) (k : Q d S) : vr i env S Q E := by
  unfold vr
  rw [h]
  exact k
/-! ### the script's cells -/
theorem cell_spec {ns : List Int} {i : Int} {S : Sto} {Q : DK} {E : EK} (h : 0 ≤ i) (k : ∀ c : Int, Q (.int c) S) : m_l_cell_at [.lst (ns.map D.int), .int i] S Q E := by
  unfold m_l_cell_at t_l_cell_at
  simp only [fnD, sNx, sSeq, sRet, sRetN, sDrop, sIf, sBrk, sCnt, sAsg, sPar, sAug, sSub, setD, sThru, asgT, asgL, itemsOf, vr, cn, dTwo, tbl, ttr, truD_bl, truD_int, truD_non, truD_tup, truD_lst, truD_str, truD_ref, tAndD, tOrD, tNotD, vOf, eIf, vNot, dNeg, fAdd_int, fAdd_tup, fSub, fMul, fDiv, fMod, fPow, fShl, fLt, fLe, fGt, fGe, fEq, fNe, fIx_tup, fIx_lst, fIx_ref, aNil, aCons, dTup, dLst, dLstR, dB, bAbs, bLen_tup, bLen_lst, bLen_ref, bMax, bMin, bInt_int, bInt_bl, dBits, dCall, iVal, iR1, iR2, List.map_cons, List.map_nil, List.length_cons, List.length_nil, List.replicate, List.cons_append, List.nil_append, List.append_nil, List.set, List.getElem?_cons_zero, List.getElem?_cons_succ, List.getElem?_nil, atI_0, atI_1, atI_2, ix20, ix21, sup_same, Nat.reduceAdd, Nat.reduceSub, Nat.succ_eq_add_one, decide_eq_true_eq, Bool.not_eq_true', decide_eq_false_iff_not, true_and, and_true, Bool.true_eq_false, Bool.false_eq_true, if_true, if_false, reduceCtorEq]
  rw [List.length_map]
  split
  · rename_i hi
    have e : atI (ns.map D.int) i = some (.int (ns.getD i.toNat 0)) := by
      have : i = (i.toNat : Int) := by omega
      conv => lhs; rw [this]
      refine atI_nat ?_
      rw [List.getElem?_map, List.getD_eq_getElem?_getD, List.getElem?_eq_getElem (by omega)]
      rfl
    simp only [e, fnD, sNx, sSeq, sRet, sRetN, sDrop, sIf, sBrk, sCnt, sAsg, sPar, sAug, sSub, setD, sThru, asgT, asgL, itemsOf, vr, cn, dTwo, tbl, ttr, truD_bl, truD_int, truD_non, truD_tup, truD_lst, truD_str, truD_ref, tAndD, tOrD, tNotD, vOf, eIf, vNot, dNeg, fAdd_int, fAdd_tup, fSub, fMul, fDiv, fMod, fPow, fShl, fLt, fLe, fGt, fGe, fEq, fNe, fIx_tup, fIx_lst, fIx_ref, aNil, aCons, dTup, dLst, dLstR, dB, bAbs, bLen_tup, bLen_lst, bLen_ref, bMax, bMin, bInt_int, bInt_bl, dBits, dCall, iVal, iR1, iR2, List.map_cons, List.map_nil, List.length_cons, List.length_nil, List.replicate, List.cons_append, List.nil_append, List.append_nil, List.set, List.getElem?_cons_zero, List.getElem?_cons_succ, List.getElem?_nil, atI_0, atI_1, atI_2, ix20, ix21, sup_same, Nat.reduceAdd, Nat.reduceSub, Nat.succ_eq_add_one, decide_eq_true_eq, Bool.not_eq_true', decide_eq_false_iff_not, true_and, and_true, Bool.true_eq_false, Bool.false_eq_true, if_true, if_false, reduceCtorEq]
    exact k _
  · exact k _
theorem forD_ints {g : Tg} {b : TSd} {N : Nd} (P : Nat → Ev → Sto → Prop) {n : Nat} {lo : Int} (turn : ∀ i env S, i < n → P i env S → ∃ e1, asgT S g (.int (lo + i)) env = some e1 ∧ ∀ N' : Nd, (∀ e s, P (i + 1) e s → N'.nx e s) → (∀ e s, P (i + 1) e s → N'.ct e s) → N'.rt = N.rt → N'.bk = N.nx → N'.ex = N.ex → b e1 S N') (fin : ∀ env S, P n env S → N.nx env S) : ∀ (m : Nat) (i : Nat) {env : Ev} {S : Sto}, i + m = n → P i env S → forD g b ((List.range' i m).map fun i : Nat => D.int (lo + i)) env S N
  | 0, i, env, S, hi, h => by
    have : i = n := by omega
    subst this
    exact fin _ _ h
  | m + 1, i, env, S, hi, h => by
    obtain ⟨e1, ea, hb⟩ := turn i env S (by omega) h
    rw [List.range'_succ, List.map_cons]
    unfold forD
    rw [ea]
    exact hb _ (fun e s q => forD_ints P turn fin m (i + 1) (by omega) q) (fun e s q => forD_ints P turn fin m (i + 1) (by omega) q) rfl rfl rfl
theorem forD_rng {g : Tg} {b : TSd} {N : Nd} (P : Nat → Ev → Sto → Prop) {n : Nat} {lo : Int} {env : Ev} {S : Sto} (h : P 0 env S)
    (turn : ∀ i env S, i < n → P i env S → ∃ e1, asgT S g (.int (lo + i)) env = some e1 ∧ ∀ N' : Nd, (∀ e s, P (i + 1) e s → N'.nx e s) → (∀ e s, P (i + 1) e s → N'.ct e s) → N'.rt = N.rt → N'.bk = N.nx → N'.ex = N.ex → b e1 S N') (fin : ∀ env S, P n env S → N.nx env S) : forD g b (rngD lo n) env S N := by
  unfold rngD
  rw [List.range_eq_range']
  exact forD_ints P turn fin n 0 (by omega) h
theorem bag_spec {ns : List Int} {i : Int} {S : Sto} {Q : DK} {E : EK} (h : 0 ≤ i) (h2 : i < 10000) (k : ∀ a S', S a = none → Bg S' a → Fr S S' a → Q (.ref a) S') : m_l_bag [.lst (ns.map D.int), .int i] S Q E := by
  unfold m_l_bag t_l_bag
  simp only [fnD, sNx, sSeq, sRet, sRetN, sDrop, sIf, sBrk, sCnt, sAsg, sPar, sAug, sSub, setD, sThru, asgT, asgL, itemsOf, vr, cn, dTwo, tbl, ttr, truD_bl, truD_int, truD_non, truD_tup, truD_lst, truD_str, truD_ref, tAndD, tOrD, tNotD, vOf, eIf, vNot, dNeg, fAdd_int, fAdd_tup, fSub, fMul, fDiv, fMod, fPow, fShl, fLt, fLe, fGt, fGe, fEq, fNe, fIx_tup, fIx_lst, fIx_ref, aNil, aCons, dTup, dLst, dLstR, dB, bAbs, bLen_tup, bLen_lst, bLen_ref, bMax, bMin, bInt_int, bInt_bl, dBits, dCall, iVal, iR1, iR2, List.map_cons, List.map_nil, List.length_cons, List.length_nil, List.replicate, List.cons_append, List.nil_append, List.append_nil, List.set, List.getElem?_cons_zero, List.getElem?_cons_succ, List.getElem?_nil, atI_0, atI_1, atI_2, ix20, ix21, sup_same, Nat.reduceAdd, Nat.reduceSub, Nat.succ_eq_add_one, decide_eq_true_eq, Bool.not_eq_true', decide_eq_false_iff_not, true_and, and_true, Bool.true_eq_false, Bool.false_eq_true, if_true, if_false, reduceCtorEq]
  refine ⟨by decide, cell_spec h fun c => ?_⟩
  refine ⟨(sm.of (n := 13) (by decide)).cmul (sm.of (n := 14) (by omega)) (by decide), ?_⟩
  unfold sFor
  simp only [fnD, sNx, sSeq, sRet, sRetN, sDrop, sIf, sBrk, sCnt, sAsg, sPar, sAug, sSub, setD, sThru, asgT, asgL, itemsOf, vr, cn, dTwo, tbl, ttr, truD_bl, truD_int, truD_non, truD_tup, truD_lst, truD_str, truD_ref, tAndD, tOrD, tNotD, vOf, eIf, vNot, dNeg, fAdd_int, fAdd_tup, fSub, fMul, fDiv, fMod, fPow, fShl, fLt, fLe, fGt, fGe, fEq, fNe, fIx_tup, fIx_lst, fIx_ref, aNil, aCons, dTup, dLst, dLstR, dB, bAbs, bLen_tup, bLen_lst, bLen_ref, bMax, bMin, bInt_int, bInt_bl, dBits, dCall, iVal, iR1, iR2, List.map_cons, List.map_nil, List.length_cons, List.length_nil, List.replicate, List.cons_append, List.nil_append, List.append_nil, List.set, List.getElem?_cons_zero, List.getElem?_cons_succ, List.getElem?_nil, atI_0, atI_1, atI_2, ix20, ix21, sup_same, Nat.reduceAdd, Nat.reduceSub, Nat.succ_eq_add_one, decide_eq_true_eq, Bool.not_eq_true', decide_eq_false_iff_not, true_and, and_true, Bool.true_eq_false, Bool.false_eq_true, if_true, if_false, reduceCtorEq]
  refine ⟨by decide, by decide, ?_⟩
  refine forD_rng (fun j e s => ∃ mix : Int, ∃ o5 o6, e = [some (.lst (ns.map D.int)), some (.int i), some (.tup [.int 99991, .int 99971, .int 99961, .int 99929, .int 99923, .int 99907, .int 99901, .int 99881, .int 99877]), some (.int c), some (.int mix), o5, o6] ∧ s = S ∧ 0 ≤ mix ∧ mix < 2147483647) ⟨_, _, _, rfl, rfl, by omega, by omega⟩ ?_ ?_
  · rintro j e s hj ⟨mix, o5, o6, rfl, rfl, m0, m1⟩
    refine ⟨_, rfl, fun N' hnx _ _ _ _ => ?_⟩
    simp only [fnD, sNx, sSeq, sRet, sRetN, sDrop, sIf, sBrk, sCnt, sAsg, sPar, sAug, sSub, setD, sThru, asgT, asgL, itemsOf, vr, cn, dTwo, tbl, ttr, truD_bl, truD_int, truD_non, truD_tup, truD_lst, truD_str, truD_ref, tAndD, tOrD, tNotD, vOf, eIf, vNot, dNeg, fAdd_int, fAdd_tup, fSub, fMul, fDiv, fMod, fPow, fShl, fLt, fLe, fGt, fGe, fEq, fNe, fIx_tup, fIx_lst, fIx_ref, aNil, aCons, dTup, dLst, dLstR, dB, bAbs, bLen_tup, bLen_lst, bLen_ref, bMax, bMin, bInt_int, bInt_bl, dBits, dCall, iVal, iR1, iR2, List.map_cons, List.map_nil, List.length_cons, List.length_nil, List.replicate, List.cons_append, List.nil_append, List.append_nil, List.set, List.getElem?_cons_zero, List.getElem?_cons_succ, List.getElem?_nil, atI_0, atI_1, atI_2, ix20, ix21, sup_same, Nat.reduceAdd, Nat.reduceSub, Nat.succ_eq_add_one, decide_eq_true_eq, Bool.not_eq_true', decide_eq_false_iff_not, true_and, and_true, Bool.true_eq_false, Bool.false_eq_true, if_true, if_false, reduceCtorEq]
    refine cell_spec (by omega) fun c2 => ?_
    have g0 := fmod_pos (a := c2) (b := 10 ^ (18 : Int).toNat) (by decide +kernel)
    have e18 : (10 : Int) ^ (18 : Int).toNat = 1000000000000000000 := rfl
    rw [e18] at g0 ⊢
    have : ∃ p : Int, 0 < p ∧ p < 100000 ∧ atI [D.int 99991, .int 99971, .int 99961, .int 99929, .int 99923, .int 99907, .int 99901, .int 99881, .int 99877] (0 + (j : Int)) = some (.int p) := by
      have hn : ∀ (k : Nat) (p : Int), j = k → [D.int 99991, .int 99971, .int 99961, .int 99929, .int 99923, .int 99907, .int 99901, .int 99881, .int 99877][k]? = some (.int p) → atI [D.int 99991, .int 99971, .int 99961, .int 99929, .int 99923, .int 99907, .int 99901, .int 99881, .int 99877] (0 + (j : Int)) = some (.int p) := fun k p e1 e2 => by
        have : (0 + (j : Int)) = (k : Int) := by omega
        rw [this]
        exact atI_nat e2
      rcases (by omega : j = 0 ∨ j = 1 ∨ j = 2 ∨ j = 3 ∨ j = 4 ∨ j = 5 ∨ j = 6 ∨ j = 7 ∨ j = 8) with h | h | h | h | h | h | h | h | h
      · exact ⟨_, by decide, by decide, hn 0 99991 h rfl⟩
      · exact ⟨_, by decide, by decide, hn 1 99971 h rfl⟩
      · exact ⟨_, by decide, by decide, hn 2 99961 h rfl⟩
      · exact ⟨_, by decide, by decide, hn 3 99929 h rfl⟩
      · exact ⟨_, by decide, by decide, hn 4 99923 h rfl⟩
      · exact ⟨_, by decide, by decide, hn 5 99907 h rfl⟩
      · exact ⟨_, by decide, by decide, hn 6 99901 h rfl⟩
      · exact ⟨_, by decide, by decide, hn 7 99881 h rfl⟩
      · exact ⟨_, by decide, by decide, hn 8 99877 h rfl⟩
    obtain ⟨p, p0, p1, ep⟩ := this
    simp only [ep, fnD, sNx, sSeq, sRet, sRetN, sDrop, sIf, sBrk, sCnt, sAsg, sPar, sAug, sSub, setD, sThru, asgT, asgL, itemsOf, vr, cn, dTwo, tbl, ttr, truD_bl, truD_int, truD_non, truD_tup, truD_lst, truD_str, truD_ref, tAndD, tOrD, tNotD, vOf, eIf, vNot, dNeg, fAdd_int, fAdd_tup, fSub, fMul, fDiv, fMod, fPow, fShl, fLt, fLe, fGt, fGe, fEq, fNe, fIx_tup, fIx_lst, fIx_ref, aNil, aCons, dTup, dLst, dLstR, dB, bAbs, bLen_tup, bLen_lst, bLen_ref, bMax, bMin, bInt_int, bInt_bl, dBits, dCall, iVal, iR1, iR2, List.map_cons, List.map_nil, List.length_cons, List.length_nil, List.replicate, List.cons_append, List.nil_append, List.append_nil, List.set, List.getElem?_cons_zero, List.getElem?_cons_succ, List.getElem?_nil, atI_0, atI_1, atI_2, ix20, ix21, sup_same, Nat.reduceAdd, Nat.reduceSub, Nat.succ_eq_add_one, decide_eq_true_eq, Bool.not_eq_true', decide_eq_false_iff_not, true_and, and_true, Bool.true_eq_false, Bool.false_eq_true, if_true, if_false, reduceCtorEq]
    have g1 := fmod_pos (a := (c2.fmod 1000000000000000000 + 11 * (0 + (j : Int)) + 1) ^ (3 : Int).toNat) p0
    have g2 := fmod_pos (a := mix * 48271 + ((c2.fmod 1000000000000000000 + 11 * (0 + (j : Int)) + 1) ^ (3 : Int).toNat).fmod p) (b := 2147483629) (by omega)
    have hb := (sm.of (n := 61) (i := c2.fmod 1000000000000000000 + 11 * (0 + (j : Int)) + 1) (by omega)).bits
    refine ⟨by decide, by decide, by decide, (sm.of (n := 5) (by decide)).cmul (sm.of (n := 5) (by omega)) (by decide), (sm.of (n := 31) (by omega)).cmul (sm.of (n := 16) (by decide)) (by decide), by decide, by omega, by omega, by decide, hnx _ _ ⟨_, _, _, rfl, rfl, g2.1, by omega⟩⟩
  · rintro e s ⟨mix, o5, o6, rfl, rfl, m0, m1⟩
    simp only [fnD, sNx, sSeq, sRet, sRetN, sDrop, sIf, sBrk, sCnt, sAsg, sPar, sAug, sSub, setD, sThru, asgT, asgL, itemsOf, vr, cn, dTwo, tbl, ttr, truD_bl, truD_int, truD_non, truD_tup, truD_lst, truD_str, truD_ref, tAndD, tOrD, tNotD, vOf, eIf, vNot, dNeg, fAdd_int, fAdd_tup, fSub, fMul, fDiv, fMod, fPow, fShl, fLt, fLe, fGt, fGe, fEq, fNe, fIx_tup, fIx_lst, fIx_ref, aNil, aCons, dTup, dLst, dLstR, dB, bAbs, bLen_tup, bLen_lst, bLen_ref, bMax, bMin, bInt_int, bInt_bl, dBits, dCall, iVal, iR1, iR2, List.map_cons, List.map_nil, List.length_cons, List.length_nil, List.replicate, List.cons_append, List.nil_append, List.append_nil, List.set, List.getElem?_cons_zero, List.getElem?_cons_succ, List.getElem?_nil, atI_0, atI_1, atI_2, ix20, ix21, sup_same, Nat.reduceAdd, Nat.reduceSub, Nat.succ_eq_add_one, decide_eq_true_eq, Bool.not_eq_true', decide_eq_false_iff_not, true_and, and_true, Bool.true_eq_false, Bool.false_eq_true, if_true, if_false, reduceCtorEq]
    have fin : ∀ (c' : Int) (a : Addr), 0 ≤ c' → s a = none → Q (.ref a) (sup s a [.int c', .int (mix + 1)]) := fun c' a hc ha => k a _ ha ⟨_, _, sup_same, hc, by omega, by omega⟩ Fr.sup
    have e18 : (10 : Int) ^ (18 : Int).toNat = 1000000000000000000 := rfl
    rw [e18]
    refine ⟨by decide, by decide, ?_⟩
    split
    · exact ⟨by decide, fun a ha => fin 0 a (by omega) ha⟩
    · exact ⟨by decide, fun a ha => fin c a (by omega) ha⟩
end Lb

namespace Lb
open PySem PySem.Spec PyProof.Rows L2 Bl
theorem ok_rt (x : Rt) : okD (rt x) := ⟨rfl, rfl⟩
theorem rt_eq {x y : Rt} (h : x = y) : eqD (rt x) (rt y) = true := by
  subst h
  have e := eq_fr x.b x.b
  have e2 := eq_fr x.q x.q
  rw [decide_eq_true rfl] at e e2
  show (eqD (fr x.b) (fr x.b) && ((x.s == x.s) && (eqD (fr x.q) (fr x.q) && true))) = true
  rw [e, e2, beq_self_eq_true]
  rfl
/-- in its form -/
def Cn (x : Rt) : Prop := (x.s = 0 ∧ x.q = 0) ∨ (x.s ≠ 0 ∧ x.q ≠ 0 ∧ ¬ sqb x.q)
theorem canon_cn (b : Rat) (s : Int) (q : Rat) : Cn (canon b s q) := by
  unfold canon Cn
  split
  · exact .inl ⟨rfl, rfl⟩
  · rename_i h
    split
    · exact .inl ⟨rfl, rfl⟩
    · rename_i h2
      exact .inr ⟨fun z => h (.inl z), fun z => h (.inr z), h2⟩
theorem ne_rt {x y : Rt} (h : x = y) : (!eqD (rt x) (rt y)) = false := by rw [rt_eq h]; rfl
theorem ne_go {x y : Rt} {S : Sto} {Q : DK} (h : x = y) (k : Q (.bl false) S) : fNe (rt x) (rt y) S Q := ⟨ok_rt _, ok_rt _, by rw [ne_rt h]; exact k⟩
theorem sqr_sr {n : Nat} {q : Rat} (h : sr n q) (h0 : 0 ≤ q) : sr n (sqr q) := by
  have z := low_sm (r := sqr q) (isq_den q) (Rat.div_mul_cancel (castne (isq_den q))) (isq_sm (Rat.num_nonneg.mpr h0) h.n) (isq_sm (n := q.den) (by omega) h.d)
  exact ⟨z.1, z.2⟩
theorem sr_s {s : Int} (h : s = -1 ∨ s = 0 ∨ s = 1) : sr 1 (s : Rat) := by
  rcases h with h | h | h <;> subst h <;> exact sr.int (sm.of (by decide)) (by decide)
theorem canon_sr {n m : Nat} {b q : Rat} {s : Int} (hb : sr n b) (hq : sr m q) (h0 : 0 ≤ q) (hs : s = -1 ∨ s = 0 ∨ s = 1) : sr (n + m + 2) (canon b s q).b ∧ sr (m + 1) (canon b s q).q ∧ 0 ≤ (canon b s q).q ∧ ((canon b s q).s = -1 ∨ (canon b s q).s = 0 ∨ (canon b s q).s = 1) := by
  unfold canon
  split
  · exact ⟨hb.mono (by omega), sr.zero, Rat.le_refl, .inr (.inl rfl)⟩
  · split
    · exact ⟨(hb.add ((sr_s hs).mul (sqr_sr hq h0))).mono (by omega), sr.zero, Rat.le_refl, .inr (.inl rfl)⟩
    · exact ⟨hb.mono (by omega), hq.mono (by omega), h0, hs⟩
end Lb

/-! The steps of the transformers as rules, for a tactic that goes on as long as one rule fits. -/
namespace Go
open PySem PySem.Spec PyProof.Rows L2 Bl Lb
section
variable {env : Ev} {l : Ev} {S S1 : Sto} {Q : DK} {E : EK} {nx bk ct : Ev → Sto → Prop} {rt : DK} {ex : Xc → Ev → Sto → Prop} {t u : TSd} {ta tb te : TEd} {tt tu : TTd} {a b : D} {P : Bool → Sto → Prop}
def asgK (S : Sto) (g : Tg) (d : D) (env : Ev) (nx : Ev → Sto → Prop) : Prop := match asgT S g d env with
  | some e => nx e S
  | none => False
def parK (S : Sto) (is : List Nat) (ds : List D) (env : Ev) (nx : Ev → Sto → Prop) : Prop := match asgL S (is.map .nm) ds env with
  | some e => nx e S
  | none => False
def ifK (b : Bool) (A B : Prop) : Prop := if b = true then A else B
def tblK (d : D) (S : Sto) (Q : Bool → Sto → Prop) : Prop := match d with | .bl b => Q b S | _ => False
def seqLst (ds : List D) (S : Sto) (Q : DK) : Prop := ds.length ≤ sizeLine ∧ Q (.lst ds) S
theorem gAll {xs : List D} (k : bAll [.lst xs] S Q) : bAll [.lst xs] S Q := k
theorem gVr {i : Nat} (k : vr i env S Q E) : vr i env S Q E := k
def wipeK (vs : List Nat) (env : Ev) (k : Ev → Prop) : Prop := k (wipeD env vs)
def unsK (i : Nat) (env : Ev) (k : Ev → Prop) : Prop := k (env.set i none)
def getLL (ks : List Str) (ds : List D) (ty tx : TEd) (env : Ev) (S : Sto) (Q : DK) (E : EK) : Prop := ds.length = ks.length ∧ ty env S (fun y S2 => tx env S2 (fun z S3 => match y with
  | .str x => Q ((lookD ks ds x).getD z) S3
  | _ => False) E) E
theorem gUns {i : Nat} {k : Ev → Prop} (h : unsK i env k) : unsK i env k := h
theorem gAsg {g : Tg} (k : asgK S g a env nx) : asgK S g a env nx := k
theorem gStar {i aft : Nat} {gs : List Tg} (k : starK i aft gs a env S nx) : starK i aft gs a env S nx := k
theorem gAug {i : Nat} {f : F2} (k : sAug i te f env S ⟨nx, rt, bk, ct, ex⟩) : sAug i te f env S ⟨nx, rt, bk, ct, ex⟩ := k
theorem gIxT {ds : List D} (k : fIx (.tup ds) b S Q) : fIx (.tup ds) b S Q := k
theorem gIxL {ds : List D} (k : fIx (.lst ds) b S Q) : fIx (.lst ds) b S Q := k
def isiK (T : String) (d : D) (S : Sto) (Q : DK) : Prop := match isiD T d with | some b => Q (.bl b) S | none => False
def enumK (d : D) (S : Sto) (Q : List D → Sto → Prop) : Prop := match seqD d with | some ds => Q (enumD ds) S | none => False
def revK (d : D) (S : Sto) (Q : List D → Sto → Prop) : Prop := match seqD d with | some ds => Q ds.reverse S | none => False
theorem revT {ds : List D} {Q : List D → Sto → Prop} (k : Q ds.reverse S) : revK (.tup ds) S Q := k
theorem revL {ds : List D} {Q : List D → Sto → Prop} (k : Q ds.reverse S) : revK (.lst ds) S Q := k
theorem zipT {ds es : List D} {Q : List D → Sto → Prop} (k : Q (zipD ds es) S) : zipK (.tup ds) (.tup es) S Q := k
theorem zipL {ds es : List D} {Q : List D → Sto → Prop} (k : Q (zipD ds es) S) : zipK (.lst ds) (.lst es) S Q := k
def iValK (d : D) (S : Sto) (Q : List D → Sto → Prop) : Prop := match d with | .tup ds => Q ds S | .lst ds => Q ds S | _ => False
theorem iValT {ds : List D} {Q : List D → Sto → Prop} (k : Q ds S) : iValK (.tup ds) S Q := k
theorem iValL {ds : List D} {Q : List D → Sto → Prop} (k : Q ds S) : iValK (.lst ds) S Q := k
theorem nx' (k : nx env S) : sNx env S ⟨nx, rt, bk, ct, ex⟩ := k
theorem seq (k : t env S ⟨fun e S1 => u e S1 ⟨nx, rt, bk, ct, ex⟩, rt, bk, ct, ex⟩) : sSeq t u env S ⟨nx, rt, bk, ct, ex⟩ := k
theorem ret (k : te env S rt fun x S1 => ex x env S1) : sRet te env S ⟨nx, rt, bk, ct, ex⟩ := k
theorem retN (k : rt .non S) : sRetN env S ⟨nx, rt, bk, ct, ex⟩ := k
theorem drop (k : te env S (fun _ S1 => nx env S1) fun x S1 => ex x env S1) : sDrop te env S ⟨nx, rt, bk, ct, ex⟩ := k
theorem brk (k : bk env S) : sBrk env S ⟨nx, rt, bk, ct, ex⟩ := k
theorem cnt (k : ct env S) : sCnt env S ⟨nx, rt, bk, ct, ex⟩ := k
theorem if' (k : tt env S (fun b S1 => ifK b (t env S1 ⟨nx, rt, bk, ct, ex⟩) (u env S1 ⟨nx, rt, bk, ct, ex⟩)) fun x S1 => ex x env S1) : sIf tt t u env S ⟨nx, rt, bk, ct, ex⟩ := k
theorem asg {g : Tg} (k : te env S (fun d S1 => asgK S1 g d env nx) fun x S1 => ex x env S1) : sAsg te g env S ⟨nx, rt, bk, ct, ex⟩ := k
theorem par {is : List Nat} {t : TAd} (k : t env S (fun ds S1 => parK S1 is ds env nx) fun x S1 => ex x env S1) : sPar is t env S ⟨nx, rt, bk, ct, ex⟩ := k
theorem raise {x : Str} (k : ex ⟨x, []⟩ env S) : sRaise x env S ⟨nx, rt, bk, ct, ex⟩ := k
theorem thru (k : t env S ⟨fun e s => u e s ⟨nx, rt, bk, ct, ex⟩, rt, bk, ct, fun _ _ _ => False⟩) : sThru t u env S ⟨nx, rt, bk, ct, ex⟩ := k
theorem tryAs {sb : Str → Option Bool} {i : Nat} {v : Addr → Str → TSd} (k : t env S (ndT sb i v ⟨nx, rt, bk, ct, ex⟩)) : sTryAs t sb i v env S ⟨nx, rt, bk, ct, ex⟩ := k
theorem for' {ti : TAd} {g : Tg} (k : ti env S (fun ds S1 => forD g t ds env S1 ⟨nx, rt, bk, ct, ex⟩) fun x S1 => ex x env S1) : sFor ti g t env S ⟨nx, rt, bk, ct, ex⟩ := k
theorem sub {to ti : TEd} (k : te env S (fun v S1 => to env S1 (fun o S2 => ti env S2 (fun i S3 => setD o i v S3 fun S4 => nx env S4) fun x S3 => ex x env S3) fun x S2 => ex x env S2) fun x S1 => ex x env S1) : sSub te to ti env S ⟨nx, rt, bk, ct, ex⟩ := k
/-! targets -/
theorem tp_cons {g : Tg} {ts : List Tg} {d : D} {ds : List D} (k : asgK S g d env fun e S => asgK S (.tp ts) (.tup ds) e nx) : asgK S (.tp (g :: ts)) (.tup (d :: ds)) env nx := by
  unfold asgK at *
  show match (match asgT S g d env with | some e => asgL S ts ds e | none => none) with | some e => nx e S | none => False
  cases h : asgT S g d env with
  | none => rw [h] at k; exact k.elim
  | some e => rw [h] at k; exact k
theorem tp_nil (k : nx env S) : asgK S (.tp []) (.tup []) env nx := k
theorem par_cons {i : Nat} {is : List Nat} {d : D} {ds : List D} (k : asgK S (.nm i) d env fun e S => parK S is ds e nx) : parK S (i :: is) (d :: ds) env nx := k
theorem par_nil (k : nx env S) : parK S [] [] env nx := k
/-! expressions -/
theorem cn' (k : Q a S) : Bl.cn a env S Q E := k
theorem two {f : F2} (k : ta env S (fun x S1 => tb env S1 (fun y S2 => f x y S2 Q) E) E) : dTwo ta tb f env S Q E := k
theorem nil {Q : List D → Sto → Prop} (k : Q [] S) : aNil env S Q E := k
theorem cons {t : TEd} {u : TAd} {Q : List D → Sto → Prop} (k : t env S (fun d S1 => u env S1 (fun ds S2 => Q (d :: ds) S2) E) E) : aCons t u env S Q E := k
def tupK (ds : List D) (S : Sto) (Q : DK) : Prop := ds.length ≤ sizeLine ∧ Q (.tup ds) S
def lstRK (ds : List D) (S : Sto) (Q : DK) : Prop := ds.length ≤ sizeLine ∧ ∀ a, S a = none → Q (.ref a) (sup S a ds)
theorem tup {t : TAd} (k : t env S (fun ds S1 => tupK ds S1 Q) E) : dTup t env S Q E := k
theorem lst {t : TAd} (k : t env S (fun ds S1 => seqLst ds S1 Q) E) : dLst t env S Q E := k
theorem lstR {t : TAd} (k : t env S (fun ds S1 => lstRK ds S1 Q) E) : dLstR t env S Q E := k
theorem tupK' {ds : List D} (h : Nat.ble ds.length 100 = true) (k : Q (.tup ds) S) : tupK ds S Q := ⟨Nat.le_trans (Nat.le_of_ble_eq_true h) (by decide), k⟩
theorem lstK' {ds : List D} (h : Nat.ble ds.length 100 = true) (k : Q (.lst ds) S) : seqLst ds S Q := ⟨Nat.le_trans (Nat.le_of_ble_eq_true h) (by decide), k⟩
theorem lstRK' {ds : List D} (h : Nat.ble ds.length 100 = true) (k : ∀ a, S a = none → Q (.ref a) (sup S a ds)) : lstRK ds S Q := ⟨Nat.le_trans (Nat.le_of_ble_eq_true h) (by decide), k⟩
theorem tbl' {P : Bool → Sto → Prop} (k : te env S (fun d S' => tblK d S' P) E) : tbl te env S P E := k
theorem tblK' {c : Bool} (k : P c S) : tblK (.bl c) S P := k
theorem ttr' (k : te env S (fun d S' => truD d S' P) E) : ttr te env S P E := k
theorem truB {c : Bool} (k : P c S) : truD (.bl c) S P := k
theorem truI {i : Int} (k : P (i != 0) S) : truD (.int i) S P := k
theorem truN (k : P false S) : truD .non S P := k
theorem and' (k : tt env S (fun c S1 => ifK c (tu env S1 P E) (P false S1)) E) : tAndD tt tu env S P E := k
theorem or' (k : tt env S (fun c S1 => ifK c (P true S1) (tu env S1 P E)) E) : tOrD tt tu env S P E := k
theorem not' (k : tt env S (fun c S1 => P (!c) S1) E) : tNotD tt env S P E := k
theorem vOf' (k : tt env S (fun c S1 => Q (.bl c) S1) E) : vOf tt env S Q E := k
theorem vNot' (k : ta env S (fun d S' => tblK d S' fun c S1 => Q (.bl (!c)) S1) E) : vNot ta env S Q E := k
theorem eIf' (k : tt env S (fun c S1 => ifK c (ta env S1 Q E) (tb env S1 Q E)) E) : eIf tt ta tb env S Q E := k
theorem ifT {A B : Prop} (k : A) : ifK true A B := k
theorem ifF {A B : Prop} (k : B) : ifK false A B := k
theorem ifN {A B : Prop} {c : Bool} (k : ifK c B A) : ifK (!c) A B := by cases c <;> exact k
theorem ifD {A B p : Prop} [Decidable p] (h : p → A) (k : ¬ p → B) : ifK (decide p) A B := by
  unfold ifK
  by_cases c : p
  · rw [if_pos (decide_eq_true c)]; exact h c
  · rw [if_neg (by simpa using c)]; exact k c
theorem ifDF {A B p : Prop} [Decidable p] (h : ¬ p) (k : B) : ifK (decide p) A B := ifD (fun z => absurd z h) fun _ => k
theorem ifBT {A B : Prop} {c : Bool} (h : c = true) (k : A) : ifK c A B := by subst h; exact k
theorem ifBF {A B : Prop} {c : Bool} (h : c = false) (k : B) : ifK c A B := by subst h; exact k
/-! operators -/
variable {i j : Int}
theorem add (k : Q (.int (i + j)) S) : fAdd (.int i) (.int j) S Q := k
theorem addT {ds es : List D} (h : Nat.ble (ds ++ es).length 1000 = true) (k : Q (.tup (ds ++ es)) S) : fAdd (.tup ds) (.tup es) S Q := ⟨by have := Nat.le_of_ble_eq_true h; rw [List.length_append] at this; exact Nat.le_trans this (by decide), k⟩
theorem sub' (k : Q (.int (i - j)) S) : fSub (.int i) (.int j) S Q := k
theorem mul (h : CMul' i j) (k : Q (.int (i * j)) S) : fMul (.int i) (.int j) S Q := ⟨h, k⟩
theorem div (h : CDiv' j) (k : Q (.int (i.fdiv j)) S) : fDiv (.int i) (.int j) S Q := ⟨h, k⟩
theorem mod (h : j ≠ 0) (k : Q (.int (i.fmod j)) S) : fMod (.int i) (.int j) S Q := ⟨h, k⟩
theorem lt (k : Q (.bl (decide (i < j))) S) : fLt (.int i) (.int j) S Q := k
theorem le (k : Q (.bl (decide (i ≤ j))) S) : fLe (.int i) (.int j) S Q := k
theorem gt (k : Q (.bl (decide (j < i))) S) : fGt (.int i) (.int j) S Q := k
theorem ge (k : Q (.bl (decide (j ≤ i))) S) : fGe (.int i) (.int j) S Q := k
theorem eqI (k : Q (.bl (decide (i = j))) S) : fEq (.int i) (.int j) S Q := ⟨ok_int _, ok_int _, by rw [Lb.eq_int]; exact k⟩
theorem neI (k : Q (.bl (!decide (i = j))) S) : fNe (.int i) (.int j) S Q := ⟨ok_int _, ok_int _, by rw [Lb.eq_int]; exact k⟩
def negK (d : D) (S : Sto) (Q : DK) : Prop := match d with | .int i => Q (.int (-i)) S | _ => False
theorem neg (k : ta env S (fun d S' => negK d S' Q) E) : dNeg ta env S Q E := k
theorem neg' (k : Q (.int (-i)) S) : negK (.int i) S Q := k
theorem pow2 {n : Nat} (h : sm n i) (hn : n ≤ 1000000) (k : Q (.int (i * i)) S) : fPow (.int i) (.int 2) S Q := by
  have := h.bits
  refine ⟨by decide, by omega, ?_⟩
  have e : i ^ (2 : Int).toNat = i * i := by
    show i ^ 2 = i * i
    rw [Int.pow_succ, Int.pow_succ, Int.pow_zero, Int.one_mul]
  rw [e]
  exact k
theorem is' (k : Q (.bl (isN a)) S) : fIs a .non S Q := k
theorem isNot' (k : Q (.bl (!isN a)) S) : fIsNot a .non S Q := k
theorem chain {tc : TEd} {f g : F2} (k : ta env S (fun x S1 => tb env S1 (fun y S2 => f x y S2 (fun d S3 => match d with
  | .bl true => tc env S3 (fun z S4 => g y z S4 Q) E
  | .bl false => Q (.bl false) S3
  | _ => False)) E) E) : dChain ta tb tc f g env S Q E := k
theorem dB' {g : GB} {t : TAd} (k : t env S (fun ds S1 => g ds S1 Q) E) : dB g t env S Q E := k
theorem abs' (k : Q (.int (if i < 0 then -i else i)) S) : bAbs [.int i] S Q := k
theorem lenT {ds : List D} (k : Q (.int ds.length) S) : bLen [.tup ds] S Q := k
theorem lenL {ds : List D} (k : Q (.int ds.length) S) : bLen [.lst ds] S Q := k
theorem max' (k : Q (.int (if j > i then j else i)) S) : bMax [.int i, .int j] S Q := k
theorem min' (k : Q (.int (if j < i then j else i)) S) : bMin [.int i, .int j] S Q := k
theorem intI (k : Q (.int i) S) : bInt [.int i] S Q := k
theorem intB {c : Bool} (k : Q (.int (if c then 1 else 0)) S) : bInt [.bl c] S Q := k
theorem tupL {ds : List D} (k : Q (.tup ds) S) : bTup [.lst ds] S Q := k
theorem tupT {ds : List D} (k : Q (.tup ds) S) : bTup [.tup ds] S Q := k
theorem isi {T : String} (k : ta env S (fun d S1 => isiK T d S1 Q) E) : dIsi T ta env S Q E := k
def callK (m : TFd) (np nk : Nat) (ds zs : List D) (gs : List D) (S : Sto) (Q : DK) (E : EK) : Prop := ds.length = np ∧ zs.length = nk ∧ m gs S Q E
theorem call {m : TFd} {np nk : Nat} {gD : List D → List D → List D} {tk : TAd} {t : TAd} (k : t env S (fun ds S1 => tk env S1 (fun zs S2 => callK m np nk ds zs (gD ds zs) S2 Q E) E) E) : dCall m np nk gD t tk env S Q E := k
theorem callK' {m : TFd} {np nk : Nat} {ds zs gs : List D} (h : ds.length = np) (h2 : zs.length = nk) (k : m gs S Q E) : callK m np nk ds zs gs S Q E := ⟨h, h2, k⟩
/-! items -/
theorem ixT {ds : List D} {i : Int} {d : D} (h : atI ds i = some d) (k : Q d S) : fIx (.tup ds) (.int i) S Q := by
  unfold fIx
  dsimp only
  rw [h]
  exact k
theorem ixL {ds : List D} {i : Int} {d : D} (h : atI ds i = some d) (k : Q d S) : fIx (.lst ds) (.int i) S Q := by
  unfold fIx
  dsimp only
  rw [h]
  exact k
theorem ixR {r : Addr} {ds : List D} {i : Int} {d : D} (e : S r = some ds) (h : atI ds i = some d) (k : Q d S) : fIx (.ref r) (.int i) S Q := by
  unfold fIx
  dsimp only
  rw [e]
  dsimp only
  rw [h]
  exact k
def r1K (ds : List D) (S : Sto) (Q : List D → Sto → Prop) : Prop := match ds with
  | [.int j] => -(2 ^ 62) ≤ j ∧ j < 2 ^ 62 ∧ Q (rngD 0 j.toNat) S
  | _ => False
def r2K (ds : List D) (S : Sto) (Q : List D → Sto → Prop) : Prop := match ds with
  | [.int i, .int j] => (-(2 ^ 62) ≤ i ∧ i < 2 ^ 62 ∧ -(2 ^ 62) ≤ j ∧ j < 2 ^ 62) ∧ Q (rngD i (j - i).toNat) S
  | _ => False
theorem star {te : TEd} {i aft : Nat} {gs : List Tg} (k : te env S (fun d S1 => starK i aft gs d env S1 nx) fun x S1 => ex x env S1) : sStar te i aft gs env S ⟨nx, rt, bk, ct, ex⟩ := k
def asgLK (S : Sto) (gs : List Tg) (ds : List D) (env : Ev) (nx : Ev → Sto → Prop) : Prop := match asgL S gs ds env with
  | some e => nx e S
  | none => False
theorem l_cons {g : Tg} {ts : List Tg} {d : D} {ds : List D} (k : asgK S g d env fun e S => asgLK S ts ds e nx) : asgLK S (g :: ts) (d :: ds) env nx := by
  unfold asgK at k
  unfold asgLK at *
  show match (match asgT S g d env with | some e => asgL S ts ds e | none => none) with | some e => nx e S | none => False
  cases h : asgT S g d env with
  | none => rw [h] at k; exact k.elim
  | some e => rw [h] at k; exact k
theorem l_nil (k : nx env S) : asgLK S [] [] env nx := k
theorem starG {i aft : Nat} {gs : List Tg} {d : D} {ds es : List D} (h : itemsOf S d = some ds) (hl : i + aft ≤ ds.length) (e : starD i aft ds = es) (k : asgLK S gs es env nx) : starK i aft gs d env S nx := by
  unfold starK
  rw [h]
  refine ⟨hl, ?_⟩
  rw [e]
  exact k
theorem enum' {Q : List D → Sto → Prop} (k : te env S (fun d S1 => enumK d S1 Q) E) : iEnumD te env S Q E := k
theorem rev' {Q : List D → Sto → Prop} (k : te env S (fun d S1 => revK d S1 Q) E) : iRevD te env S Q E := k
theorem zip' {t u : TEd} {Q : List D → Sto → Prop} (k : t env S (fun x S1 => u env S1 (fun y S2 => zipK x y S2 Q) E) E) : iZipD t u env S Q E := k
theorem eqS {x y : Str} {b : Bool} (h : okD (.str x)) (h2 : okD (.str y)) (e : eqD (.str x) (.str y) = b) (k : Q (.bl b) S) : fEq (.str x) (.str y) S Q := ⟨h, h2, by rw [e]; exact k⟩
theorem neS {x y : Str} {b : Bool} (h : okD (.str x)) (h2 : okD (.str y)) (e : (!eqD (.str x) (.str y)) = b) (k : Q (.bl b) S) : fNe (.str x) (.str y) S Q := ⟨h, h2, by rw [e]; exact k⟩
theorem gEqS {x y : Str} (k : fEq (.str x) (.str y) S Q) : fEq (.str x) (.str y) S Q := k
theorem gNeS {x y : Str} (k : fNe (.str x) (.str y) S Q) : fNe (.str x) (.str y) S Q := k
theorem wipe_nil {k : Ev → Prop} (h : k env) : wipeK [] env k := h
theorem wipe_cons {v : Nat} {vs : List Nat} {k : Ev → Prop} (h : wipeK vs env fun e => unsK v e k) : wipeK (v :: vs) env k := h
def lcK (g : Tg) (tt : TTd) (te : TEd) (vs : List Nat) (env : Ev) (ds : List D) (S : Sto) (Q : List D → Sto → Prop) : Prop := ds.length < sizeLine ∧ lcGo g tt te (wipeD env vs) ds S Q
theorem lc {ti : TAd} {g : Tg} {vs : List Nat} (k : ti env S (fun ds S1 => lcK g tt te vs env ds S1 fun ys S2 => Q (.lst ys) S2) E) : dLc ti g tt te vs env S Q E := k
theorem lcR {ti : TAd} {g : Tg} {vs : List Nat} (k : ti env S (fun ds S1 => lcK g tt te vs env ds S1 fun ys S2 => ∀ a, S2 a = none → Q (.ref a) (sup S2 a ys)) E) : dLcR ti g tt te vs env S Q E := k
theorem lcL {g : Tg} {vs : List Nat} {ds : List D} {Q : List D → Sto → Prop} (h : Nat.ble ds.length 1000 = true) (k : wipeK vs env fun e => lcGo g tt te e ds S Q) : lcK g tt te vs env ds S Q := ⟨Nat.lt_of_le_of_lt (Nat.le_of_ble_eq_true h) (by decide), k⟩
theorem lg_nil {g : Tg} {Q : List D → Sto → Prop} (k : Q [] S) : lcGo g tt te env [] S Q := k
theorem lg_cons {g : Tg} {d : D} {ds : List D} {Q : List D → Sto → Prop} (k : asgK S g d env fun e1 S1 => tt e1 S1 (fun b S2 => ifK b (te e1 S2 (fun y S3 => lcGo g tt te env ds S3 fun ys S4 => Q (y :: ys) S4) EF) (lcGo g tt te env ds S2 Q)) EF) : lcGo g tt te env (d :: ds) S Q := by
  unfold asgK at k
  unfold lcGo
  exact k
theorem yes {P : Bool → Sto → Prop} (k : P true S) : tYesD env S P E := k
theorem for_nil {g : Tg} (k : nx env S) : forD g t [] env S ⟨nx, rt, bk, ct, ex⟩ := k
theorem for_cons {g : Tg} {d : D} {ds : List D} (k : asgK S g d env fun e1 S1 => t e1 S1 ⟨fun e s => forD g t ds e s ⟨nx, rt, bk, ct, ex⟩, rt, nx, fun e s => forD g t ds e s ⟨nx, rt, bk, ct, ex⟩, ex⟩) : forD g t (d :: ds) env S ⟨nx, rt, bk, ct, ex⟩ := by
  unfold asgK at k
  unfold forD
  exact k
theorem allB {xs : List D} {bs : List Bool} (h : blsOf xs = some bs) (k : Q (.bl (bs.all id)) S) : bAll [.lst xs] S Q := by
  unfold bAll
  dsimp only
  rw [h]
  exact k
theorem sl {t : TEd} {lo hi : TOd} (k : t env S (fun x S1 => lo env S1 (fun l S2 => hi env S2 (fun u S3 => fSl x l u S3 Q) E) E) E) : dSl t lo hi env S Q E := k
theorem oN {Q : Option Int → Sto → Prop} (k : Q none S) : oNone env S Q E := k
def osK (d : D) (S : Sto) (Q : Option Int → Sto → Prop) : Prop := match d with | .int i => Q (some i) S | _ => False
theorem oS {t : TEd} {Q : Option Int → Sto → Prop} (k : t env S (fun d S1 => osK d S1 Q) E) : oSome t env S Q E := k
theorem osK' {Q : Option Int → Sto → Prop} (k : Q (some i) S) : osK (.int i) S Q := k
theorem slT {ds es : List D} {lo hi : Option Int} (e : Bl.cutD ds lo hi = es) (k : Q (.tup es) S) : fSl (.tup ds) lo hi S Q := by subst e; exact k
theorem slL {ds es : List D} {lo hi : Option Int} (e : Bl.cutD ds lo hi = es) (k : Q (.lst es) S) : fSl (.lst ds) lo hi S Q := by subst e; exact k
def getLK (ks : List Str) (ds : List D) (y z : D) (S : Sto) (Q : DK) : Prop := match y with
  | .str x => Q ((lookD ks ds x).getD z) S
  | _ => False
theorem getL {ks : List Str} {ta : TAd} {ty tx : TEd} (k : ta env S (fun ds S1 => getLL ks ds ty tx env S1 Q E) E) : dGetL ks ta ty tx env S Q E := k
theorem getLL' {ks : List Str} {ds : List D} {ty tx : TEd} (h : ds.length = ks.length) (k : ty env S (fun y S2 => tx env S2 (fun z S3 => getLK ks ds y z S3 Q) E) E) : getLL ks ds ty tx env S Q E := ⟨h, k⟩
theorem iadd {i j : Int} (k : Q (.int (i + j)) S) : fIadd (.int i) (.int j) S Q := k
theorem r1 {t : TAd} {Q : List D → Sto → Prop} (k : t env S (fun ds S1 => r1K ds S1 Q) E) : iR1 t env S Q E := k
theorem r1' {j : Int} {n : Nat} {Q : List D → Sto → Prop} (e : j = n) (h : n < 2 ^ 60) (k : Q (rngD 0 n) S) : r1K [.int j] S Q := by
  subst e
  exact ⟨by omega, by omega, by rw [Int.toNat_natCast]; exact k⟩
theorem r2 {t : TAd} {Q : List D → Sto → Prop} (k : t env S (fun ds S1 => r2K ds S1 Q) E) : iR2 t env S Q E := k
theorem cells {α : Type} {c : Int} {xs : List α} (h : 0 ≤ c) : 1 + (if ((xs.length : Nat) : Int) < c then ((xs.length : Nat) : Int) else c) = ((1 + min c.toNat xs.length : Nat) : Int) := by
  split <;> omega
theorem iVal' {Q : List D → Sto → Prop} (k : te env S (fun d S1 => iValK d S1 Q) E) : iVal te env S Q E := k
end
theorem vr0 {l : Ev} {d : D} {S : Sto} {Q : DK} {E : EK} (k : Q d S) : vr 0 (some d :: l) S Q E := k
theorem set0 {y : Option D} {l : Ev} {d : D} {S : Sto} {nx : Ev → Sto → Prop} (k : nx (some d :: l) S) : asgK S (.nm 0) d (y :: l) nx := k
theorem uns0 {y : Option D} {l : Ev} {k : Ev → Prop} (h : k (none :: l)) : unsK 0 (y :: l) k := h
theorem aug0 {l : Ev} {d : D} {S : Sto} {te : TEd} {f : F2} {nx bk ct : Ev → Sto → Prop} {rt : DK} {ex : Xc → Ev → Sto → Prop} (k : te (some d :: l) S (fun y S1 => f d y S1 fun z S2 => nx (some z :: l) S2) fun x S1 => ex x (some d :: l) S1) : sAug 0 te f (some d :: l) S ⟨nx, rt, bk, ct, ex⟩ := k
theorem vr1 {x0 : Option D} {l : Ev} {d : D} {S : Sto} {Q : DK} {E : EK} (k : Q d S) : vr 1 (x0 :: some d :: l) S Q E := k
theorem set1 {x0 : Option D} {y : Option D} {l : Ev} {d : D} {S : Sto} {nx : Ev → Sto → Prop} (k : nx (x0 :: some d :: l) S) : asgK S (.nm 1) d (x0 :: y :: l) nx := k
theorem uns1 {x0 : Option D} {y : Option D} {l : Ev} {k : Ev → Prop} (h : k (x0 :: none :: l)) : unsK 1 (x0 :: y :: l) k := h
theorem aug1 {x0 : Option D} {l : Ev} {d : D} {S : Sto} {te : TEd} {f : F2} {nx bk ct : Ev → Sto → Prop} {rt : DK} {ex : Xc → Ev → Sto → Prop} (k : te (x0 :: some d :: l) S (fun y S1 => f d y S1 fun z S2 => nx (x0 :: some z :: l) S2) fun x S1 => ex x (x0 :: some d :: l) S1) : sAug 1 te f (x0 :: some d :: l) S ⟨nx, rt, bk, ct, ex⟩ := k
theorem vr2 {x0 x1 : Option D} {l : Ev} {d : D} {S : Sto} {Q : DK} {E : EK} (k : Q d S) : vr 2 (x0 :: x1 :: some d :: l) S Q E := k
theorem set2 {x0 x1 : Option D} {y : Option D} {l : Ev} {d : D} {S : Sto} {nx : Ev → Sto → Prop} (k : nx (x0 :: x1 :: some d :: l) S) : asgK S (.nm 2) d (x0 :: x1 :: y :: l) nx := k
theorem uns2 {x0 x1 : Option D} {y : Option D} {l : Ev} {k : Ev → Prop} (h : k (x0 :: x1 :: none :: l)) : unsK 2 (x0 :: x1 :: y :: l) k := h
theorem aug2 {x0 x1 : Option D} {l : Ev} {d : D} {S : Sto} {te : TEd} {f : F2} {nx bk ct : Ev → Sto → Prop} {rt : DK} {ex : Xc → Ev → Sto → Prop} (k : te (x0 :: x1 :: some d :: l) S (fun y S1 => f d y S1 fun z S2 => nx (x0 :: x1 :: some z :: l) S2) fun x S1 => ex x (x0 :: x1 :: some d :: l) S1) : sAug 2 te f (x0 :: x1 :: some d :: l) S ⟨nx, rt, bk, ct, ex⟩ := k
theorem vr3 {x0 x1 x2 : Option D} {l : Ev} {d : D} {S : Sto} {Q : DK} {E : EK} (k : Q d S) : vr 3 (x0 :: x1 :: x2 :: some d :: l) S Q E := k
theorem set3 {x0 x1 x2 : Option D} {y : Option D} {l : Ev} {d : D} {S : Sto} {nx : Ev → Sto → Prop} (k : nx (x0 :: x1 :: x2 :: some d :: l) S) : asgK S (.nm 3) d (x0 :: x1 :: x2 :: y :: l) nx := k
theorem uns3 {x0 x1 x2 : Option D} {y : Option D} {l : Ev} {k : Ev → Prop} (h : k (x0 :: x1 :: x2 :: none :: l)) : unsK 3 (x0 :: x1 :: x2 :: y :: l) k := h
theorem aug3 {x0 x1 x2 : Option D} {l : Ev} {d : D} {S : Sto} {te : TEd} {f : F2} {nx bk ct : Ev → Sto → Prop} {rt : DK} {ex : Xc → Ev → Sto → Prop} (k : te (x0 :: x1 :: x2 :: some d :: l) S (fun y S1 => f d y S1 fun z S2 => nx (x0 :: x1 :: x2 :: some z :: l) S2) fun x S1 => ex x (x0 :: x1 :: x2 :: some d :: l) S1) : sAug 3 te f (x0 :: x1 :: x2 :: some d :: l) S ⟨nx, rt, bk, ct, ex⟩ := k
theorem vr4 {x0 x1 x2 x3 : Option D} {l : Ev} {d : D} {S : Sto} {Q : DK} {E : EK} (k : Q d S) : vr 4 (x0 :: x1 :: x2 :: x3 :: some d :: l) S Q E := k
theorem set4 {x0 x1 x2 x3 : Option D} {y : Option D} {l : Ev} {d : D} {S : Sto} {nx : Ev → Sto → Prop} (k : nx (x0 :: x1 :: x2 :: x3 :: some d :: l) S) : asgK S (.nm 4) d (x0 :: x1 :: x2 :: x3 :: y :: l) nx := k
theorem uns4 {x0 x1 x2 x3 : Option D} {y : Option D} {l : Ev} {k : Ev → Prop} (h : k (x0 :: x1 :: x2 :: x3 :: none :: l)) : unsK 4 (x0 :: x1 :: x2 :: x3 :: y :: l) k := h
theorem aug4 {x0 x1 x2 x3 : Option D} {l : Ev} {d : D} {S : Sto} {te : TEd} {f : F2} {nx bk ct : Ev → Sto → Prop} {rt : DK} {ex : Xc → Ev → Sto → Prop} (k : te (x0 :: x1 :: x2 :: x3 :: some d :: l) S (fun y S1 => f d y S1 fun z S2 => nx (x0 :: x1 :: x2 :: x3 :: some z :: l) S2) fun x S1 => ex x (x0 :: x1 :: x2 :: x3 :: some d :: l) S1) : sAug 4 te f (x0 :: x1 :: x2 :: x3 :: some d :: l) S ⟨nx, rt, bk, ct, ex⟩ := k
theorem vr5 {x0 x1 x2 x3 x4 : Option D} {l : Ev} {d : D} {S : Sto} {Q : DK} {E : EK} (k : Q d S) : vr 5 (x0 :: x1 :: x2 :: x3 :: x4 :: some d :: l) S Q E := k
theorem set5 {x0 x1 x2 x3 x4 : Option D} {y : Option D} {l : Ev} {d : D} {S : Sto} {nx : Ev → Sto → Prop} (k : nx (x0 :: x1 :: x2 :: x3 :: x4 :: some d :: l) S) : asgK S (.nm 5) d (x0 :: x1 :: x2 :: x3 :: x4 :: y :: l) nx := k
theorem uns5 {x0 x1 x2 x3 x4 : Option D} {y : Option D} {l : Ev} {k : Ev → Prop} (h : k (x0 :: x1 :: x2 :: x3 :: x4 :: none :: l)) : unsK 5 (x0 :: x1 :: x2 :: x3 :: x4 :: y :: l) k := h
theorem aug5 {x0 x1 x2 x3 x4 : Option D} {l : Ev} {d : D} {S : Sto} {te : TEd} {f : F2} {nx bk ct : Ev → Sto → Prop} {rt : DK} {ex : Xc → Ev → Sto → Prop} (k : te (x0 :: x1 :: x2 :: x3 :: x4 :: some d :: l) S (fun y S1 => f d y S1 fun z S2 => nx (x0 :: x1 :: x2 :: x3 :: x4 :: some z :: l) S2) fun x S1 => ex x (x0 :: x1 :: x2 :: x3 :: x4 :: some d :: l) S1) : sAug 5 te f (x0 :: x1 :: x2 :: x3 :: x4 :: some d :: l) S ⟨nx, rt, bk, ct, ex⟩ := k
theorem vr6 {x0 x1 x2 x3 x4 x5 : Option D} {l : Ev} {d : D} {S : Sto} {Q : DK} {E : EK} (k : Q d S) : vr 6 (x0 :: x1 :: x2 :: x3 :: x4 :: x5 :: some d :: l) S Q E := k
theorem set6 {x0 x1 x2 x3 x4 x5 : Option D} {y : Option D} {l : Ev} {d : D} {S : Sto} {nx : Ev → Sto → Prop} (k : nx (x0 :: x1 :: x2 :: x3 :: x4 :: x5 :: some d :: l) S) : asgK S (.nm 6) d (x0 :: x1 :: x2 :: x3 :: x4 :: x5 :: y :: l) nx := k
theorem uns6 {x0 x1 x2 x3 x4 x5 : Option D} {y : Option D} {l : Ev} {k : Ev → Prop} (h : k (x0 :: x1 :: x2 :: x3 :: x4 :: x5 :: none :: l)) : unsK 6 (x0 :: x1 :: x2 :: x3 :: x4 :: x5 :: y :: l) k := h
theorem aug6 {x0 x1 x2 x3 x4 x5 : Option D} {l : Ev} {d : D} {S : Sto} {te : TEd} {f : F2} {nx bk ct : Ev → Sto → Prop} {rt : DK} {ex : Xc → Ev → Sto → Prop} (k : te (x0 :: x1 :: x2 :: x3 :: x4 :: x5 :: some d :: l) S (fun y S1 => f d y S1 fun z S2 => nx (x0 :: x1 :: x2 :: x3 :: x4 :: x5 :: some z :: l) S2) fun x S1 => ex x (x0 :: x1 :: x2 :: x3 :: x4 :: x5 :: some d :: l) S1) : sAug 6 te f (x0 :: x1 :: x2 :: x3 :: x4 :: x5 :: some d :: l) S ⟨nx, rt, bk, ct, ex⟩ := k
theorem vr7 {x0 x1 x2 x3 x4 x5 x6 : Option D} {l : Ev} {d : D} {S : Sto} {Q : DK} {E : EK} (k : Q d S) : vr 7 (x0 :: x1 :: x2 :: x3 :: x4 :: x5 :: x6 :: some d :: l) S Q E := k
theorem set7 {x0 x1 x2 x3 x4 x5 x6 : Option D} {y : Option D} {l : Ev} {d : D} {S : Sto} {nx : Ev → Sto → Prop} (k : nx (x0 :: x1 :: x2 :: x3 :: x4 :: x5 :: x6 :: some d :: l) S) : asgK S (.nm 7) d (x0 :: x1 :: x2 :: x3 :: x4 :: x5 :: x6 :: y :: l) nx := k
theorem uns7 {x0 x1 x2 x3 x4 x5 x6 : Option D} {y : Option D} {l : Ev} {k : Ev → Prop} (h : k (x0 :: x1 :: x2 :: x3 :: x4 :: x5 :: x6 :: none :: l)) : unsK 7 (x0 :: x1 :: x2 :: x3 :: x4 :: x5 :: x6 :: y :: l) k := h
theorem aug7 {x0 x1 x2 x3 x4 x5 x6 : Option D} {l : Ev} {d : D} {S : Sto} {te : TEd} {f : F2} {nx bk ct : Ev → Sto → Prop} {rt : DK} {ex : Xc → Ev → Sto → Prop} (k : te (x0 :: x1 :: x2 :: x3 :: x4 :: x5 :: x6 :: some d :: l) S (fun y S1 => f d y S1 fun z S2 => nx (x0 :: x1 :: x2 :: x3 :: x4 :: x5 :: x6 :: some z :: l) S2) fun x S1 => ex x (x0 :: x1 :: x2 :: x3 :: x4 :: x5 :: x6 :: some d :: l) S1) : sAug 7 te f (x0 :: x1 :: x2 :: x3 :: x4 :: x5 :: x6 :: some d :: l) S ⟨nx, rt, bk, ct, ex⟩ := k
theorem vr8 {x0 x1 x2 x3 x4 x5 x6 x7 : Option D} {l : Ev} {d : D} {S : Sto} {Q : DK} {E : EK} (k : Q d S) : vr 8 (x0 :: x1 :: x2 :: x3 :: x4 :: x5 :: x6 :: x7 :: some d :: l) S Q E := k
theorem set8 {x0 x1 x2 x3 x4 x5 x6 x7 : Option D} {y : Option D} {l : Ev} {d : D} {S : Sto} {nx : Ev → Sto → Prop} (k : nx (x0 :: x1 :: x2 :: x3 :: x4 :: x5 :: x6 :: x7 :: some d :: l) S) : asgK S (.nm 8) d (x0 :: x1 :: x2 :: x3 :: x4 :: x5 :: x6 :: x7 :: y :: l) nx := k
theorem uns8 {x0 x1 x2 x3 x4 x5 x6 x7 : Option D} {y : Option D} {l : Ev} {k : Ev → Prop} (h : k (x0 :: x1 :: x2 :: x3 :: x4 :: x5 :: x6 :: x7 :: none :: l)) : unsK 8 (x0 :: x1 :: x2 :: x3 :: x4 :: x5 :: x6 :: x7 :: y :: l) k := h
theorem aug8 {x0 x1 x2 x3 x4 x5 x6 x7 : Option D} {l : Ev} {d : D} {S : Sto} {te : TEd} {f : F2} {nx bk ct : Ev → Sto → Prop} {rt : DK} {ex : Xc → Ev → Sto → Prop} (k : te (x0 :: x1 :: x2 :: x3 :: x4 :: x5 :: x6 :: x7 :: some d :: l) S (fun y S1 => f d y S1 fun z S2 => nx (x0 :: x1 :: x2 :: x3 :: x4 :: x5 :: x6 :: x7 :: some z :: l) S2) fun x S1 => ex x (x0 :: x1 :: x2 :: x3 :: x4 :: x5 :: x6 :: x7 :: some d :: l) S1) : sAug 8 te f (x0 :: x1 :: x2 :: x3 :: x4 :: x5 :: x6 :: x7 :: some d :: l) S ⟨nx, rt, bk, ct, ex⟩ := k
theorem vr9 {x0 x1 x2 x3 x4 x5 x6 x7 x8 : Option D} {l : Ev} {d : D} {S : Sto} {Q : DK} {E : EK} (k : Q d S) : vr 9 (x0 :: x1 :: x2 :: x3 :: x4 :: x5 :: x6 :: x7 :: x8 :: some d :: l) S Q E := k
theorem set9 {x0 x1 x2 x3 x4 x5 x6 x7 x8 : Option D} {y : Option D} {l : Ev} {d : D} {S : Sto} {nx : Ev → Sto → Prop} (k : nx (x0 :: x1 :: x2 :: x3 :: x4 :: x5 :: x6 :: x7 :: x8 :: some d :: l) S) : asgK S (.nm 9) d (x0 :: x1 :: x2 :: x3 :: x4 :: x5 :: x6 :: x7 :: x8 :: y :: l) nx := k
theorem uns9 {x0 x1 x2 x3 x4 x5 x6 x7 x8 : Option D} {y : Option D} {l : Ev} {k : Ev → Prop} (h : k (x0 :: x1 :: x2 :: x3 :: x4 :: x5 :: x6 :: x7 :: x8 :: none :: l)) : unsK 9 (x0 :: x1 :: x2 :: x3 :: x4 :: x5 :: x6 :: x7 :: x8 :: y :: l) k := h
theorem aug9 {x0 x1 x2 x3 x4 x5 x6 x7 x8 : Option D} {l : Ev} {d : D} {S : Sto} {te : TEd} {f : F2} {nx bk ct : Ev → Sto → Prop} {rt : DK} {ex : Xc → Ev → Sto → Prop} (k : te (x0 :: x1 :: x2 :: x3 :: x4 :: x5 :: x6 :: x7 :: x8 :: some d :: l) S (fun y S1 => f d y S1 fun z S2 => nx (x0 :: x1 :: x2 :: x3 :: x4 :: x5 :: x6 :: x7 :: x8 :: some z :: l) S2) fun x S1 => ex x (x0 :: x1 :: x2 :: x3 :: x4 :: x5 :: x6 :: x7 :: x8 :: some d :: l) S1) : sAug 9 te f (x0 :: x1 :: x2 :: x3 :: x4 :: x5 :: x6 :: x7 :: x8 :: some d :: l) S ⟨nx, rt, bk, ct, ex⟩ := k
theorem vr10 {x0 x1 x2 x3 x4 x5 x6 x7 x8 x9 : Option D} {l : Ev} {d : D} {S : Sto} {Q : DK} {E : EK} (k : Q d S) : vr 10 (x0 :: x1 :: x2 :: x3 :: x4 :: x5 :: x6 :: x7 :: x8 :: x9 :: some d :: l) S Q E := k
theorem set10 {x0 x1 x2 x3 x4 x5 x6 x7 x8 x9 : Option D} {y : Option D} {l : Ev} {d : D} {S : Sto} {nx : Ev → Sto → Prop} (k : nx (x0 :: x1 :: x2 :: x3 :: x4 :: x5 :: x6 :: x7 :: x8 :: x9 :: some d :: l) S) : asgK S (.nm 10) d (x0 :: x1 :: x2 :: x3 :: x4 :: x5 :: x6 :: x7 :: x8 :: x9 :: y :: l) nx := k
theorem uns10 {x0 x1 x2 x3 x4 x5 x6 x7 x8 x9 : Option D} {y : Option D} {l : Ev} {k : Ev → Prop} (h : k (x0 :: x1 :: x2 :: x3 :: x4 :: x5 :: x6 :: x7 :: x8 :: x9 :: none :: l)) : unsK 10 (x0 :: x1 :: x2 :: x3 :: x4 :: x5 :: x6 :: x7 :: x8 :: x9 :: y :: l) k := h
theorem aug10 {x0 x1 x2 x3 x4 x5 x6 x7 x8 x9 : Option D} {l : Ev} {d : D} {S : Sto} {te : TEd} {f : F2} {nx bk ct : Ev → Sto → Prop} {rt : DK} {ex : Xc → Ev → Sto → Prop} (k : te (x0 :: x1 :: x2 :: x3 :: x4 :: x5 :: x6 :: x7 :: x8 :: x9 :: some d :: l) S (fun y S1 => f d y S1 fun z S2 => nx (x0 :: x1 :: x2 :: x3 :: x4 :: x5 :: x6 :: x7 :: x8 :: x9 :: some z :: l) S2) fun x S1 => ex x (x0 :: x1 :: x2 :: x3 :: x4 :: x5 :: x6 :: x7 :: x8 :: x9 :: some d :: l) S1) : sAug 10 te f (x0 :: x1 :: x2 :: x3 :: x4 :: x5 :: x6 :: x7 :: x8 :: x9 :: some d :: l) S ⟨nx, rt, bk, ct, ex⟩ := k
theorem vr11 {x0 x1 x2 x3 x4 x5 x6 x7 x8 x9 x10 : Option D} {l : Ev} {d : D} {S : Sto} {Q : DK} {E : EK} (k : Q d S) : vr 11 (x0 :: x1 :: x2 :: x3 :: x4 :: x5 :: x6 :: x7 :: x8 :: x9 :: x10 :: some d :: l) S Q E := k
theorem set11 {x0 x1 x2 x3 x4 x5 x6 x7 x8 x9 x10 : Option D} {y : Option D} {l : Ev} {d : D} {S : Sto} {nx : Ev → Sto → Prop} (k : nx (x0 :: x1 :: x2 :: x3 :: x4 :: x5 :: x6 :: x7 :: x8 :: x9 :: x10 :: some d :: l) S) : asgK S (.nm 11) d (x0 :: x1 :: x2 :: x3 :: x4 :: x5 :: x6 :: x7 :: x8 :: x9 :: x10 :: y :: l) nx := k
theorem uns11 {x0 x1 x2 x3 x4 x5 x6 x7 x8 x9 x10 : Option D} {y : Option D} {l : Ev} {k : Ev → Prop} (h : k (x0 :: x1 :: x2 :: x3 :: x4 :: x5 :: x6 :: x7 :: x8 :: x9 :: x10 :: none :: l)) : unsK 11 (x0 :: x1 :: x2 :: x3 :: x4 :: x5 :: x6 :: x7 :: x8 :: x9 :: x10 :: y :: l) k := h
theorem aug11 {x0 x1 x2 x3 x4 x5 x6 x7 x8 x9 x10 : Option D} {l : Ev} {d : D} {S : Sto} {te : TEd} {f : F2} {nx bk ct : Ev → Sto → Prop} {rt : DK} {ex : Xc → Ev → Sto → Prop} (k : te (x0 :: x1 :: x2 :: x3 :: x4 :: x5 :: x6 :: x7 :: x8 :: x9 :: x10 :: some d :: l) S (fun y S1 => f d y S1 fun z S2 => nx (x0 :: x1 :: x2 :: x3 :: x4 :: x5 :: x6 :: x7 :: x8 :: x9 :: x10 :: some z :: l) S2) fun x S1 => ex x (x0 :: x1 :: x2 :: x3 :: x4 :: x5 :: x6 :: x7 :: x8 :: x9 :: x10 :: some d :: l) S1) : sAug 11 te f (x0 :: x1 :: x2 :: x3 :: x4 :: x5 :: x6 :: x7 :: x8 :: x9 :: x10 :: some d :: l) S ⟨nx, rt, bk, ct, ex⟩ := k
theorem vr12 {x0 x1 x2 x3 x4 x5 x6 x7 x8 x9 x10 x11 : Option D} {l : Ev} {d : D} {S : Sto} {Q : DK} {E : EK} (k : Q d S) : vr 12 (x0 :: x1 :: x2 :: x3 :: x4 :: x5 :: x6 :: x7 :: x8 :: x9 :: x10 :: x11 :: some d :: l) S Q E := k
theorem set12 {x0 x1 x2 x3 x4 x5 x6 x7 x8 x9 x10 x11 : Option D} {y : Option D} {l : Ev} {d : D} {S : Sto} {nx : Ev → Sto → Prop} (k : nx (x0 :: x1 :: x2 :: x3 :: x4 :: x5 :: x6 :: x7 :: x8 :: x9 :: x10 :: x11 :: some d :: l) S) : asgK S (.nm 12) d (x0 :: x1 :: x2 :: x3 :: x4 :: x5 :: x6 :: x7 :: x8 :: x9 :: x10 :: x11 :: y :: l) nx := k
theorem uns12 {x0 x1 x2 x3 x4 x5 x6 x7 x8 x9 x10 x11 : Option D} {y : Option D} {l : Ev} {k : Ev → Prop} (h : k (x0 :: x1 :: x2 :: x3 :: x4 :: x5 :: x6 :: x7 :: x8 :: x9 :: x10 :: x11 :: none :: l)) : unsK 12 (x0 :: x1 :: x2 :: x3 :: x4 :: x5 :: x6 :: x7 :: x8 :: x9 :: x10 :: x11 :: y :: l) k := h
theorem aug12 {x0 x1 x2 x3 x4 x5 x6 x7 x8 x9 x10 x11 : Option D} {l : Ev} {d : D} {S : Sto} {te : TEd} {f : F2} {nx bk ct : Ev → Sto → Prop} {rt : DK} {ex : Xc → Ev → Sto → Prop} (k : te (x0 :: x1 :: x2 :: x3 :: x4 :: x5 :: x6 :: x7 :: x8 :: x9 :: x10 :: x11 :: some d :: l) S (fun y S1 => f d y S1 fun z S2 => nx (x0 :: x1 :: x2 :: x3 :: x4 :: x5 :: x6 :: x7 :: x8 :: x9 :: x10 :: x11 :: some z :: l) S2) fun x S1 => ex x (x0 :: x1 :: x2 :: x3 :: x4 :: x5 :: x6 :: x7 :: x8 :: x9 :: x10 :: x11 :: some d :: l) S1) : sAug 12 te f (x0 :: x1 :: x2 :: x3 :: x4 :: x5 :: x6 :: x7 :: x8 :: x9 :: x10 :: x11 :: some d :: l) S ⟨nx, rt, bk, ct, ex⟩ := k
theorem vr13 {x0 x1 x2 x3 x4 x5 x6 x7 x8 x9 x10 x11 x12 : Option D} {l : Ev} {d : D} {S : Sto} {Q : DK} {E : EK} (k : Q d S) : vr 13 (x0 :: x1 :: x2 :: x3 :: x4 :: x5 :: x6 :: x7 :: x8 :: x9 :: x10 :: x11 :: x12 :: some d :: l) S Q E := k
theorem set13 {x0 x1 x2 x3 x4 x5 x6 x7 x8 x9 x10 x11 x12 : Option D} {y : Option D} {l : Ev} {d : D} {S : Sto} {nx : Ev → Sto → Prop} (k : nx (x0 :: x1 :: x2 :: x3 :: x4 :: x5 :: x6 :: x7 :: x8 :: x9 :: x10 :: x11 :: x12 :: some d :: l) S) : asgK S (.nm 13) d (x0 :: x1 :: x2 :: x3 :: x4 :: x5 :: x6 :: x7 :: x8 :: x9 :: x10 :: x11 :: x12 :: y :: l) nx := k
theorem uns13 {x0 x1 x2 x3 x4 x5 x6 x7 x8 x9 x10 x11 x12 : Option D} {y : Option D} {l : Ev} {k : Ev → Prop} (h : k (x0 :: x1 :: x2 :: x3 :: x4 :: x5 :: x6 :: x7 :: x8 :: x9 :: x10 :: x11 :: x12 :: none :: l)) : unsK 13 (x0 :: x1 :: x2 :: x3 :: x4 :: x5 :: x6 :: x7 :: x8 :: x9 :: x10 :: x11 :: x12 :: y :: l) k := h
theorem aug13 {x0 x1 x2 x3 x4 x5 x6 x7 x8 x9 x10 x11 x12 : Option D} {l : Ev} {d : D} {S : Sto} {te : TEd} {f : F2} {nx bk ct : Ev → Sto → Prop} {rt : DK} {ex : Xc → Ev → Sto → Prop} (k : te (x0 :: x1 :: x2 :: x3 :: x4 :: x5 :: x6 :: x7 :: x8 :: x9 :: x10 :: x11 :: x12 :: some d :: l) S (fun y S1 => f d y S1 fun z S2 => nx (x0 :: x1 :: x2 :: x3 :: x4 :: x5 :: x6 :: x7 :: x8 :: x9 :: x10 :: x11 :: x12 :: some z :: l) S2) fun x S1 => ex x (x0 :: x1 :: x2 :: x3 :: x4 :: x5 :: x6 :: x7 :: x8 :: x9 :: x10 :: x11 :: x12 :: some d :: l) S1) : sAug 13 te f (x0 :: x1 :: x2 :: x3 :: x4 :: x5 :: x6 :: x7 :: x8 :: x9 :: x10 :: x11 :: x12 :: some d :: l) S ⟨nx, rt, bk, ct, ex⟩ := k
theorem vr14 {x0 x1 x2 x3 x4 x5 x6 x7 x8 x9 x10 x11 x12 x13 : Option D} {l : Ev} {d : D} {S : Sto} {Q : DK} {E : EK} (k : Q d S) : vr 14 (x0 :: x1 :: x2 :: x3 :: x4 :: x5 :: x6 :: x7 :: x8 :: x9 :: x10 :: x11 :: x12 :: x13 :: some d :: l) S Q E := k
theorem set14 {x0 x1 x2 x3 x4 x5 x6 x7 x8 x9 x10 x11 x12 x13 : Option D} {y : Option D} {l : Ev} {d : D} {S : Sto} {nx : Ev → Sto → Prop} (k : nx (x0 :: x1 :: x2 :: x3 :: x4 :: x5 :: x6 :: x7 :: x8 :: x9 :: x10 :: x11 :: x12 :: x13 :: some d :: l) S) : asgK S (.nm 14) d (x0 :: x1 :: x2 :: x3 :: x4 :: x5 :: x6 :: x7 :: x8 :: x9 :: x10 :: x11 :: x12 :: x13 :: y :: l) nx := k
theorem uns14 {x0 x1 x2 x3 x4 x5 x6 x7 x8 x9 x10 x11 x12 x13 : Option D} {y : Option D} {l : Ev} {k : Ev → Prop} (h : k (x0 :: x1 :: x2 :: x3 :: x4 :: x5 :: x6 :: x7 :: x8 :: x9 :: x10 :: x11 :: x12 :: x13 :: none :: l)) : unsK 14 (x0 :: x1 :: x2 :: x3 :: x4 :: x5 :: x6 :: x7 :: x8 :: x9 :: x10 :: x11 :: x12 :: x13 :: y :: l) k := h
theorem aug14 {x0 x1 x2 x3 x4 x5 x6 x7 x8 x9 x10 x11 x12 x13 : Option D} {l : Ev} {d : D} {S : Sto} {te : TEd} {f : F2} {nx bk ct : Ev → Sto → Prop} {rt : DK} {ex : Xc → Ev → Sto → Prop} (k : te (x0 :: x1 :: x2 :: x3 :: x4 :: x5 :: x6 :: x7 :: x8 :: x9 :: x10 :: x11 :: x12 :: x13 :: some d :: l) S (fun y S1 => f d y S1 fun z S2 => nx (x0 :: x1 :: x2 :: x3 :: x4 :: x5 :: x6 :: x7 :: x8 :: x9 :: x10 :: x11 :: x12 :: x13 :: some z :: l) S2) fun x S1 => ex x (x0 :: x1 :: x2 :: x3 :: x4 :: x5 :: x6 :: x7 :: x8 :: x9 :: x10 :: x11 :: x12 :: x13 :: some d :: l) S1) : sAug 14 te f (x0 :: x1 :: x2 :: x3 :: x4 :: x5 :: x6 :: x7 :: x8 :: x9 :: x10 :: x11 :: x12 :: x13 :: some d :: l) S ⟨nx, rt, bk, ct, ex⟩ := k
theorem vr15 {x0 x1 x2 x3 x4 x5 x6 x7 x8 x9 x10 x11 x12 x13 x14 : Option D} {l : Ev} {d : D} {S : Sto} {Q : DK} {E : EK} (k : Q d S) : vr 15 (x0 :: x1 :: x2 :: x3 :: x4 :: x5 :: x6 :: x7 :: x8 :: x9 :: x10 :: x11 :: x12 :: x13 :: x14 :: some d :: l) S Q E := k
theorem set15 {x0 x1 x2 x3 x4 x5 x6 x7 x8 x9 x10 x11 x12 x13 x14 : Option D} {y : Option D} {l : Ev} {d : D} {S : Sto} {nx : Ev → Sto → Prop} (k : nx (x0 :: x1 :: x2 :: x3 :: x4 :: x5 :: x6 :: x7 :: x8 :: x9 :: x10 :: x11 :: x12 :: x13 :: x14 :: some d :: l) S) : asgK S (.nm 15) d (x0 :: x1 :: x2 :: x3 :: x4 :: x5 :: x6 :: x7 :: x8 :: x9 :: x10 :: x11 :: x12 :: x13 :: x14 :: y :: l) nx := k
theorem uns15 {x0 x1 x2 x3 x4 x5 x6 x7 x8 x9 x10 x11 x12 x13 x14 : Option D} {y : Option D} {l : Ev} {k : Ev → Prop} (h : k (x0 :: x1 :: x2 :: x3 :: x4 :: x5 :: x6 :: x7 :: x8 :: x9 :: x10 :: x11 :: x12 :: x13 :: x14 :: none :: l)) : unsK 15 (x0 :: x1 :: x2 :: x3 :: x4 :: x5 :: x6 :: x7 :: x8 :: x9 :: x10 :: x11 :: x12 :: x13 :: x14 :: y :: l) k := h
theorem aug15 {x0 x1 x2 x3 x4 x5 x6 x7 x8 x9 x10 x11 x12 x13 x14 : Option D} {l : Ev} {d : D} {S : Sto} {te : TEd} {f : F2} {nx bk ct : Ev → Sto → Prop} {rt : DK} {ex : Xc → Ev → Sto → Prop} (k : te (x0 :: x1 :: x2 :: x3 :: x4 :: x5 :: x6 :: x7 :: x8 :: x9 :: x10 :: x11 :: x12 :: x13 :: x14 :: some d :: l) S (fun y S1 => f d y S1 fun z S2 => nx (x0 :: x1 :: x2 :: x3 :: x4 :: x5 :: x6 :: x7 :: x8 :: x9 :: x10 :: x11 :: x12 :: x13 :: x14 :: some z :: l) S2) fun x S1 => ex x (x0 :: x1 :: x2 :: x3 :: x4 :: x5 :: x6 :: x7 :: x8 :: x9 :: x10 :: x11 :: x12 :: x13 :: x14 :: some d :: l) S1) : sAug 15 te f (x0 :: x1 :: x2 :: x3 :: x4 :: x5 :: x6 :: x7 :: x8 :: x9 :: x10 :: x11 :: x12 :: x13 :: x14 :: some d :: l) S ⟨nx, rt, bk, ct, ex⟩ := k
theorem vr16 {x0 x1 x2 x3 x4 x5 x6 x7 x8 x9 x10 x11 x12 x13 x14 x15 : Option D} {l : Ev} {d : D} {S : Sto} {Q : DK} {E : EK} (k : Q d S) : vr 16 (x0 :: x1 :: x2 :: x3 :: x4 :: x5 :: x6 :: x7 :: x8 :: x9 :: x10 :: x11 :: x12 :: x13 :: x14 :: x15 :: some d :: l) S Q E := k
theorem set16 {x0 x1 x2 x3 x4 x5 x6 x7 x8 x9 x10 x11 x12 x13 x14 x15 : Option D} {y : Option D} {l : Ev} {d : D} {S : Sto} {nx : Ev → Sto → Prop} (k : nx (x0 :: x1 :: x2 :: x3 :: x4 :: x5 :: x6 :: x7 :: x8 :: x9 :: x10 :: x11 :: x12 :: x13 :: x14 :: x15 :: some d :: l) S) : asgK S (.nm 16) d (x0 :: x1 :: x2 :: x3 :: x4 :: x5 :: x6 :: x7 :: x8 :: x9 :: x10 :: x11 :: x12 :: x13 :: x14 :: x15 :: y :: l) nx := k
theorem uns16 {x0 x1 x2 x3 x4 x5 x6 x7 x8 x9 x10 x11 x12 x13 x14 x15 : Option D} {y : Option D} {l : Ev} {k : Ev → Prop} (h : k (x0 :: x1 :: x2 :: x3 :: x4 :: x5 :: x6 :: x7 :: x8 :: x9 :: x10 :: x11 :: x12 :: x13 :: x14 :: x15 :: none :: l)) : unsK 16 (x0 :: x1 :: x2 :: x3 :: x4 :: x5 :: x6 :: x7 :: x8 :: x9 :: x10 :: x11 :: x12 :: x13 :: x14 :: x15 :: y :: l) k := h
theorem aug16 {x0 x1 x2 x3 x4 x5 x6 x7 x8 x9 x10 x11 x12 x13 x14 x15 : Option D} {l : Ev} {d : D} {S : Sto} {te : TEd} {f : F2} {nx bk ct : Ev → Sto → Prop} {rt : DK} {ex : Xc → Ev → Sto → Prop} (k : te (x0 :: x1 :: x2 :: x3 :: x4 :: x5 :: x6 :: x7 :: x8 :: x9 :: x10 :: x11 :: x12 :: x13 :: x14 :: x15 :: some d :: l) S (fun y S1 => f d y S1 fun z S2 => nx (x0 :: x1 :: x2 :: x3 :: x4 :: x5 :: x6 :: x7 :: x8 :: x9 :: x10 :: x11 :: x12 :: x13 :: x14 :: x15 :: some z :: l) S2) fun x S1 => ex x (x0 :: x1 :: x2 :: x3 :: x4 :: x5 :: x6 :: x7 :: x8 :: x9 :: x10 :: x11 :: x12 :: x13 :: x14 :: x15 :: some d :: l) S1) : sAug 16 te f (x0 :: x1 :: x2 :: x3 :: x4 :: x5 :: x6 :: x7 :: x8 :: x9 :: x10 :: x11 :: x12 :: x13 :: x14 :: x15 :: some d :: l) S ⟨nx, rt, bk, ct, ex⟩ := k
theorem vr17 {x0 x1 x2 x3 x4 x5 x6 x7 x8 x9 x10 x11 x12 x13 x14 x15 x16 : Option D} {l : Ev} {d : D} {S : Sto} {Q : DK} {E : EK} (k : Q d S) : vr 17 (x0 :: x1 :: x2 :: x3 :: x4 :: x5 :: x6 :: x7 :: x8 :: x9 :: x10 :: x11 :: x12 :: x13 :: x14 :: x15 :: x16 :: some d :: l) S Q E := k
theorem set17 {x0 x1 x2 x3 x4 x5 x6 x7 x8 x9 x10 x11 x12 x13 x14 x15 x16 : Option D} {y : Option D} {l : Ev} {d : D} {S : Sto} {nx : Ev → Sto → Prop} (k : nx (x0 :: x1 :: x2 :: x3 :: x4 :: x5 :: x6 :: x7 :: x8 :: x9 :: x10 :: x11 :: x12 :: x13 :: x14 :: x15 :: x16 :: some d :: l) S) : asgK S (.nm 17) d (x0 :: x1 :: x2 :: x3 :: x4 :: x5 :: x6 :: x7 :: x8 :: x9 :: x10 :: x11 :: x12 :: x13 :: x14 :: x15 :: x16 :: y :: l) nx := k
theorem uns17 {x0 x1 x2 x3 x4 x5 x6 x7 x8 x9 x10 x11 x12 x13 x14 x15 x16 : Option D} {y : Option D} {l : Ev} {k : Ev → Prop} (h : k (x0 :: x1 :: x2 :: x3 :: x4 :: x5 :: x6 :: x7 :: x8 :: x9 :: x10 :: x11 :: x12 :: x13 :: x14 :: x15 :: x16 :: none :: l)) : unsK 17 (x0 :: x1 :: x2 :: x3 :: x4 :: x5 :: x6 :: x7 :: x8 :: x9 :: x10 :: x11 :: x12 :: x13 :: x14 :: x15 :: x16 :: y :: l) k := h
theorem aug17 {x0 x1 x2 x3 x4 x5 x6 x7 x8 x9 x10 x11 x12 x13 x14 x15 x16 : Option D} {l : Ev} {d : D} {S : Sto} {te : TEd} {f : F2} {nx bk ct : Ev → Sto → Prop} {rt : DK} {ex : Xc → Ev → Sto → Prop} (k : te (x0 :: x1 :: x2 :: x3 :: x4 :: x5 :: x6 :: x7 :: x8 :: x9 :: x10 :: x11 :: x12 :: x13 :: x14 :: x15 :: x16 :: some d :: l) S (fun y S1 => f d y S1 fun z S2 => nx (x0 :: x1 :: x2 :: x3 :: x4 :: x5 :: x6 :: x7 :: x8 :: x9 :: x10 :: x11 :: x12 :: x13 :: x14 :: x15 :: x16 :: some z :: l) S2) fun x S1 => ex x (x0 :: x1 :: x2 :: x3 :: x4 :: x5 :: x6 :: x7 :: x8 :: x9 :: x10 :: x11 :: x12 :: x13 :: x14 :: x15 :: x16 :: some d :: l) S1) : sAug 17 te f (x0 :: x1 :: x2 :: x3 :: x4 :: x5 :: x6 :: x7 :: x8 :: x9 :: x10 :: x11 :: x12 :: x13 :: x14 :: x15 :: x16 :: some d :: l) S ⟨nx, rt, bk, ct, ex⟩ := k
theorem vr18 {x0 x1 x2 x3 x4 x5 x6 x7 x8 x9 x10 x11 x12 x13 x14 x15 x16 x17 : Option D} {l : Ev} {d : D} {S : Sto} {Q : DK} {E : EK} (k : Q d S) : vr 18 (x0 :: x1 :: x2 :: x3 :: x4 :: x5 :: x6 :: x7 :: x8 :: x9 :: x10 :: x11 :: x12 :: x13 :: x14 :: x15 :: x16 :: x17 :: some d :: l) S Q E := k
theorem set18 {x0 x1 x2 x3 x4 x5 x6 x7 x8 x9 x10 x11 x12 x13 x14 x15 x16 x17 : Option D} {y : Option D} {l : Ev} {d : D} {S : Sto} {nx : Ev → Sto → Prop} (k : nx (x0 :: x1 :: x2 :: x3 :: x4 :: x5 :: x6 :: x7 :: x8 :: x9 :: x10 :: x11 :: x12 :: x13 :: x14 :: x15 :: x16 :: x17 :: some d :: l) S) : asgK S (.nm 18) d (x0 :: x1 :: x2 :: x3 :: x4 :: x5 :: x6 :: x7 :: x8 :: x9 :: x10 :: x11 :: x12 :: x13 :: x14 :: x15 :: x16 :: x17 :: y :: l) nx := k
theorem uns18 {x0 x1 x2 x3 x4 x5 x6 x7 x8 x9 x10 x11 x12 x13 x14 x15 x16 x17 : Option D} {y : Option D} {l : Ev} {k : Ev → Prop} (h : k (x0 :: x1 :: x2 :: x3 :: x4 :: x5 :: x6 :: x7 :: x8 :: x9 :: x10 :: x11 :: x12 :: x13 :: x14 :: x15 :: x16 :: x17 :: none :: l)) : unsK 18 (x0 :: x1 :: x2 :: x3 :: x4 :: x5 :: x6 :: x7 :: x8 :: x9 :: x10 :: x11 :: x12 :: x13 :: x14 :: x15 :: x16 :: x17 :: y :: l) k := h
theorem aug18 {x0 x1 x2 x3 x4 x5 x6 x7 x8 x9 x10 x11 x12 x13 x14 x15 x16 x17 : Option D} {l : Ev} {d : D} {S : Sto} {te : TEd} {f : F2} {nx bk ct : Ev → Sto → Prop} {rt : DK} {ex : Xc → Ev → Sto → Prop} (k : te (x0 :: x1 :: x2 :: x3 :: x4 :: x5 :: x6 :: x7 :: x8 :: x9 :: x10 :: x11 :: x12 :: x13 :: x14 :: x15 :: x16 :: x17 :: some d :: l) S (fun y S1 => f d y S1 fun z S2 => nx (x0 :: x1 :: x2 :: x3 :: x4 :: x5 :: x6 :: x7 :: x8 :: x9 :: x10 :: x11 :: x12 :: x13 :: x14 :: x15 :: x16 :: x17 :: some z :: l) S2) fun x S1 => ex x (x0 :: x1 :: x2 :: x3 :: x4 :: x5 :: x6 :: x7 :: x8 :: x9 :: x10 :: x11 :: x12 :: x13 :: x14 :: x15 :: x16 :: x17 :: some d :: l) S1) : sAug 18 te f (x0 :: x1 :: x2 :: x3 :: x4 :: x5 :: x6 :: x7 :: x8 :: x9 :: x10 :: x11 :: x12 :: x13 :: x14 :: x15 :: x16 :: x17 :: some d :: l) S ⟨nx, rt, bk, ct, ex⟩ := k
theorem vr19 {x0 x1 x2 x3 x4 x5 x6 x7 x8 x9 x10 x11 x12 x13 x14 x15 x16 x17 x18 : Option D} {l : Ev} {d : D} {S : Sto} {Q : DK} {E : EK} (k : Q d S) : vr 19 (x0 :: x1 :: x2 :: x3 :: x4 :: x5 :: x6 :: x7 :: x8 :: x9 :: x10 :: x11 :: x12 :: x13 :: x14 :: x15 :: x16 :: x17 :: x18 :: some d :: l) S Q E := k
theorem set19 {x0 x1 x2 x3 x4 x5 x6 x7 x8 x9 x10 x11 x12 x13 x14 x15 x16 x17 x18 : Option D} {y : Option D} {l : Ev} {d : D} {S : Sto} {nx : Ev → Sto → Prop} (k : nx (x0 :: x1 :: x2 :: x3 :: x4 :: x5 :: x6 :: x7 :: x8 :: x9 :: x10 :: x11 :: x12 :: x13 :: x14 :: x15 :: x16 :: x17 :: x18 :: some d :: l) S) : asgK S (.nm 19) d (x0 :: x1 :: x2 :: x3 :: x4 :: x5 :: x6 :: x7 :: x8 :: x9 :: x10 :: x11 :: x12 :: x13 :: x14 :: x15 :: x16 :: x17 :: x18 :: y :: l) nx := k
theorem uns19 {x0 x1 x2 x3 x4 x5 x6 x7 x8 x9 x10 x11 x12 x13 x14 x15 x16 x17 x18 : Option D} {y : Option D} {l : Ev} {k : Ev → Prop} (h : k (x0 :: x1 :: x2 :: x3 :: x4 :: x5 :: x6 :: x7 :: x8 :: x9 :: x10 :: x11 :: x12 :: x13 :: x14 :: x15 :: x16 :: x17 :: x18 :: none :: l)) : unsK 19 (x0 :: x1 :: x2 :: x3 :: x4 :: x5 :: x6 :: x7 :: x8 :: x9 :: x10 :: x11 :: x12 :: x13 :: x14 :: x15 :: x16 :: x17 :: x18 :: y :: l) k := h
theorem aug19 {x0 x1 x2 x3 x4 x5 x6 x7 x8 x9 x10 x11 x12 x13 x14 x15 x16 x17 x18 : Option D} {l : Ev} {d : D} {S : Sto} {te : TEd} {f : F2} {nx bk ct : Ev → Sto → Prop} {rt : DK} {ex : Xc → Ev → Sto → Prop} (k : te (x0 :: x1 :: x2 :: x3 :: x4 :: x5 :: x6 :: x7 :: x8 :: x9 :: x10 :: x11 :: x12 :: x13 :: x14 :: x15 :: x16 :: x17 :: x18 :: some d :: l) S (fun y S1 => f d y S1 fun z S2 => nx (x0 :: x1 :: x2 :: x3 :: x4 :: x5 :: x6 :: x7 :: x8 :: x9 :: x10 :: x11 :: x12 :: x13 :: x14 :: x15 :: x16 :: x17 :: x18 :: some z :: l) S2) fun x S1 => ex x (x0 :: x1 :: x2 :: x3 :: x4 :: x5 :: x6 :: x7 :: x8 :: x9 :: x10 :: x11 :: x12 :: x13 :: x14 :: x15 :: x16 :: x17 :: x18 :: some d :: l) S1) : sAug 19 te f (x0 :: x1 :: x2 :: x3 :: x4 :: x5 :: x6 :: x7 :: x8 :: x9 :: x10 :: x11 :: x12 :: x13 :: x14 :: x15 :: x16 :: x17 :: x18 :: some d :: l) S ⟨nx, rt, bk, ct, ex⟩ := k
theorem vr20 {x0 x1 x2 x3 x4 x5 x6 x7 x8 x9 x10 x11 x12 x13 x14 x15 x16 x17 x18 x19 : Option D} {l : Ev} {d : D} {S : Sto} {Q : DK} {E : EK} (k : Q d S) : vr 20 (x0 :: x1 :: x2 :: x3 :: x4 :: x5 :: x6 :: x7 :: x8 :: x9 :: x10 :: x11 :: x12 :: x13 :: x14 :: x15 :: x16 :: x17 :: x18 :: x19 :: some d :: l) S Q E := k
theorem set20 {x0 x1 x2 x3 x4 x5 x6 x7 x8 x9 x10 x11 x12 x13 x14 x15 x16 x17 x18 x19 : Option D} {y : Option D} {l : Ev} {d : D} {S : Sto} {nx : Ev → Sto → Prop} (k : nx (x0 :: x1 :: x2 :: x3 :: x4 :: x5 :: x6 :: x7 :: x8 :: x9 :: x10 :: x11 :: x12 :: x13 :: x14 :: x15 :: x16 :: x17 :: x18 :: x19 :: some d :: l) S) : asgK S (.nm 20) d (x0 :: x1 :: x2 :: x3 :: x4 :: x5 :: x6 :: x7 :: x8 :: x9 :: x10 :: x11 :: x12 :: x13 :: x14 :: x15 :: x16 :: x17 :: x18 :: x19 :: y :: l) nx := k
theorem uns20 {x0 x1 x2 x3 x4 x5 x6 x7 x8 x9 x10 x11 x12 x13 x14 x15 x16 x17 x18 x19 : Option D} {y : Option D} {l : Ev} {k : Ev → Prop} (h : k (x0 :: x1 :: x2 :: x3 :: x4 :: x5 :: x6 :: x7 :: x8 :: x9 :: x10 :: x11 :: x12 :: x13 :: x14 :: x15 :: x16 :: x17 :: x18 :: x19 :: none :: l)) : unsK 20 (x0 :: x1 :: x2 :: x3 :: x4 :: x5 :: x6 :: x7 :: x8 :: x9 :: x10 :: x11 :: x12 :: x13 :: x14 :: x15 :: x16 :: x17 :: x18 :: x19 :: y :: l) k := h
theorem aug20 {x0 x1 x2 x3 x4 x5 x6 x7 x8 x9 x10 x11 x12 x13 x14 x15 x16 x17 x18 x19 : Option D} {l : Ev} {d : D} {S : Sto} {te : TEd} {f : F2} {nx bk ct : Ev → Sto → Prop} {rt : DK} {ex : Xc → Ev → Sto → Prop} (k : te (x0 :: x1 :: x2 :: x3 :: x4 :: x5 :: x6 :: x7 :: x8 :: x9 :: x10 :: x11 :: x12 :: x13 :: x14 :: x15 :: x16 :: x17 :: x18 :: x19 :: some d :: l) S (fun y S1 => f d y S1 fun z S2 => nx (x0 :: x1 :: x2 :: x3 :: x4 :: x5 :: x6 :: x7 :: x8 :: x9 :: x10 :: x11 :: x12 :: x13 :: x14 :: x15 :: x16 :: x17 :: x18 :: x19 :: some z :: l) S2) fun x S1 => ex x (x0 :: x1 :: x2 :: x3 :: x4 :: x5 :: x6 :: x7 :: x8 :: x9 :: x10 :: x11 :: x12 :: x13 :: x14 :: x15 :: x16 :: x17 :: x18 :: x19 :: some d :: l) S1) : sAug 20 te f (x0 :: x1 :: x2 :: x3 :: x4 :: x5 :: x6 :: x7 :: x8 :: x9 :: x10 :: x11 :: x12 :: x13 :: x14 :: x15 :: x16 :: x17 :: x18 :: x19 :: some d :: l) S ⟨nx, rt, bk, ct, ex⟩ := k
theorem vr21 {x0 x1 x2 x3 x4 x5 x6 x7 x8 x9 x10 x11 x12 x13 x14 x15 x16 x17 x18 x19 x20 : Option D} {l : Ev} {d : D} {S : Sto} {Q : DK} {E : EK} (k : Q d S) : vr 21 (x0 :: x1 :: x2 :: x3 :: x4 :: x5 :: x6 :: x7 :: x8 :: x9 :: x10 :: x11 :: x12 :: x13 :: x14 :: x15 :: x16 :: x17 :: x18 :: x19 :: x20 :: some d :: l) S Q E := k
theorem set21 {x0 x1 x2 x3 x4 x5 x6 x7 x8 x9 x10 x11 x12 x13 x14 x15 x16 x17 x18 x19 x20 : Option D} {y : Option D} {l : Ev} {d : D} {S : Sto} {nx : Ev → Sto → Prop} (k : nx (x0 :: x1 :: x2 :: x3 :: x4 :: x5 :: x6 :: x7 :: x8 :: x9 :: x10 :: x11 :: x12 :: x13 :: x14 :: x15 :: x16 :: x17 :: x18 :: x19 :: x20 :: some d :: l) S) : asgK S (.nm 21) d (x0 :: x1 :: x2 :: x3 :: x4 :: x5 :: x6 :: x7 :: x8 :: x9 :: x10 :: x11 :: x12 :: x13 :: x14 :: x15 :: x16 :: x17 :: x18 :: x19 :: x20 :: y :: l) nx := k
theorem uns21 {x0 x1 x2 x3 x4 x5 x6 x7 x8 x9 x10 x11 x12 x13 x14 x15 x16 x17 x18 x19 x20 : Option D} {y : Option D} {l : Ev} {k : Ev → Prop} (h : k (x0 :: x1 :: x2 :: x3 :: x4 :: x5 :: x6 :: x7 :: x8 :: x9 :: x10 :: x11 :: x12 :: x13 :: x14 :: x15 :: x16 :: x17 :: x18 :: x19 :: x20 :: none :: l)) : unsK 21 (x0 :: x1 :: x2 :: x3 :: x4 :: x5 :: x6 :: x7 :: x8 :: x9 :: x10 :: x11 :: x12 :: x13 :: x14 :: x15 :: x16 :: x17 :: x18 :: x19 :: x20 :: y :: l) k := h
theorem aug21 {x0 x1 x2 x3 x4 x5 x6 x7 x8 x9 x10 x11 x12 x13 x14 x15 x16 x17 x18 x19 x20 : Option D} {l : Ev} {d : D} {S : Sto} {te : TEd} {f : F2} {nx bk ct : Ev → Sto → Prop} {rt : DK} {ex : Xc → Ev → Sto → Prop} (k : te (x0 :: x1 :: x2 :: x3 :: x4 :: x5 :: x6 :: x7 :: x8 :: x9 :: x10 :: x11 :: x12 :: x13 :: x14 :: x15 :: x16 :: x17 :: x18 :: x19 :: x20 :: some d :: l) S (fun y S1 => f d y S1 fun z S2 => nx (x0 :: x1 :: x2 :: x3 :: x4 :: x5 :: x6 :: x7 :: x8 :: x9 :: x10 :: x11 :: x12 :: x13 :: x14 :: x15 :: x16 :: x17 :: x18 :: x19 :: x20 :: some z :: l) S2) fun x S1 => ex x (x0 :: x1 :: x2 :: x3 :: x4 :: x5 :: x6 :: x7 :: x8 :: x9 :: x10 :: x11 :: x12 :: x13 :: x14 :: x15 :: x16 :: x17 :: x18 :: x19 :: x20 :: some d :: l) S1) : sAug 21 te f (x0 :: x1 :: x2 :: x3 :: x4 :: x5 :: x6 :: x7 :: x8 :: x9 :: x10 :: x11 :: x12 :: x13 :: x14 :: x15 :: x16 :: x17 :: x18 :: x19 :: x20 :: some d :: l) S ⟨nx, rt, bk, ct, ex⟩ := k
theorem vr22 {x0 x1 x2 x3 x4 x5 x6 x7 x8 x9 x10 x11 x12 x13 x14 x15 x16 x17 x18 x19 x20 x21 : Option D} {l : Ev} {d : D} {S : Sto} {Q : DK} {E : EK} (k : Q d S) : vr 22 (x0 :: x1 :: x2 :: x3 :: x4 :: x5 :: x6 :: x7 :: x8 :: x9 :: x10 :: x11 :: x12 :: x13 :: x14 :: x15 :: x16 :: x17 :: x18 :: x19 :: x20 :: x21 :: some d :: l) S Q E := k
theorem set22 {x0 x1 x2 x3 x4 x5 x6 x7 x8 x9 x10 x11 x12 x13 x14 x15 x16 x17 x18 x19 x20 x21 : Option D} {y : Option D} {l : Ev} {d : D} {S : Sto} {nx : Ev → Sto → Prop} (k : nx (x0 :: x1 :: x2 :: x3 :: x4 :: x5 :: x6 :: x7 :: x8 :: x9 :: x10 :: x11 :: x12 :: x13 :: x14 :: x15 :: x16 :: x17 :: x18 :: x19 :: x20 :: x21 :: some d :: l) S) : asgK S (.nm 22) d (x0 :: x1 :: x2 :: x3 :: x4 :: x5 :: x6 :: x7 :: x8 :: x9 :: x10 :: x11 :: x12 :: x13 :: x14 :: x15 :: x16 :: x17 :: x18 :: x19 :: x20 :: x21 :: y :: l) nx := k
theorem uns22 {x0 x1 x2 x3 x4 x5 x6 x7 x8 x9 x10 x11 x12 x13 x14 x15 x16 x17 x18 x19 x20 x21 : Option D} {y : Option D} {l : Ev} {k : Ev → Prop} (h : k (x0 :: x1 :: x2 :: x3 :: x4 :: x5 :: x6 :: x7 :: x8 :: x9 :: x10 :: x11 :: x12 :: x13 :: x14 :: x15 :: x16 :: x17 :: x18 :: x19 :: x20 :: x21 :: none :: l)) : unsK 22 (x0 :: x1 :: x2 :: x3 :: x4 :: x5 :: x6 :: x7 :: x8 :: x9 :: x10 :: x11 :: x12 :: x13 :: x14 :: x15 :: x16 :: x17 :: x18 :: x19 :: x20 :: x21 :: y :: l) k := h
theorem aug22 {x0 x1 x2 x3 x4 x5 x6 x7 x8 x9 x10 x11 x12 x13 x14 x15 x16 x17 x18 x19 x20 x21 : Option D} {l : Ev} {d : D} {S : Sto} {te : TEd} {f : F2} {nx bk ct : Ev → Sto → Prop} {rt : DK} {ex : Xc → Ev → Sto → Prop} (k : te (x0 :: x1 :: x2 :: x3 :: x4 :: x5 :: x6 :: x7 :: x8 :: x9 :: x10 :: x11 :: x12 :: x13 :: x14 :: x15 :: x16 :: x17 :: x18 :: x19 :: x20 :: x21 :: some d :: l) S (fun y S1 => f d y S1 fun z S2 => nx (x0 :: x1 :: x2 :: x3 :: x4 :: x5 :: x6 :: x7 :: x8 :: x9 :: x10 :: x11 :: x12 :: x13 :: x14 :: x15 :: x16 :: x17 :: x18 :: x19 :: x20 :: x21 :: some z :: l) S2) fun x S1 => ex x (x0 :: x1 :: x2 :: x3 :: x4 :: x5 :: x6 :: x7 :: x8 :: x9 :: x10 :: x11 :: x12 :: x13 :: x14 :: x15 :: x16 :: x17 :: x18 :: x19 :: x20 :: x21 :: some d :: l) S1) : sAug 22 te f (x0 :: x1 :: x2 :: x3 :: x4 :: x5 :: x6 :: x7 :: x8 :: x9 :: x10 :: x11 :: x12 :: x13 :: x14 :: x15 :: x16 :: x17 :: x18 :: x19 :: x20 :: x21 :: some d :: l) S ⟨nx, rt, bk, ct, ex⟩ := k
theorem vr23 {x0 x1 x2 x3 x4 x5 x6 x7 x8 x9 x10 x11 x12 x13 x14 x15 x16 x17 x18 x19 x20 x21 x22 : Option D} {l : Ev} {d : D} {S : Sto} {Q : DK} {E : EK} (k : Q d S) : vr 23 (x0 :: x1 :: x2 :: x3 :: x4 :: x5 :: x6 :: x7 :: x8 :: x9 :: x10 :: x11 :: x12 :: x13 :: x14 :: x15 :: x16 :: x17 :: x18 :: x19 :: x20 :: x21 :: x22 :: some d :: l) S Q E := k
theorem set23 {x0 x1 x2 x3 x4 x5 x6 x7 x8 x9 x10 x11 x12 x13 x14 x15 x16 x17 x18 x19 x20 x21 x22 : Option D} {y : Option D} {l : Ev} {d : D} {S : Sto} {nx : Ev → Sto → Prop} (k : nx (x0 :: x1 :: x2 :: x3 :: x4 :: x5 :: x6 :: x7 :: x8 :: x9 :: x10 :: x11 :: x12 :: x13 :: x14 :: x15 :: x16 :: x17 :: x18 :: x19 :: x20 :: x21 :: x22 :: some d :: l) S) : asgK S (.nm 23) d (x0 :: x1 :: x2 :: x3 :: x4 :: x5 :: x6 :: x7 :: x8 :: x9 :: x10 :: x11 :: x12 :: x13 :: x14 :: x15 :: x16 :: x17 :: x18 :: x19 :: x20 :: x21 :: x22 :: y :: l) nx := k
theorem uns23 {x0 x1 x2 x3 x4 x5 x6 x7 x8 x9 x10 x11 x12 x13 x14 x15 x16 x17 x18 x19 x20 x21 x22 : Option D} {y : Option D} {l : Ev} {k : Ev → Prop} (h : k (x0 :: x1 :: x2 :: x3 :: x4 :: x5 :: x6 :: x7 :: x8 :: x9 :: x10 :: x11 :: x12 :: x13 :: x14 :: x15 :: x16 :: x17 :: x18 :: x19 :: x20 :: x21 :: x22 :: none :: l)) : unsK 23 (x0 :: x1 :: x2 :: x3 :: x4 :: x5 :: x6 :: x7 :: x8 :: x9 :: x10 :: x11 :: x12 :: x13 :: x14 :: x15 :: x16 :: x17 :: x18 :: x19 :: x20 :: x21 :: x22 :: y :: l) k := h
theorem aug23 {x0 x1 x2 x3 x4 x5 x6 x7 x8 x9 x10 x11 x12 x13 x14 x15 x16 x17 x18 x19 x20 x21 x22 : Option D} {l : Ev} {d : D} {S : Sto} {te : TEd} {f : F2} {nx bk ct : Ev → Sto → Prop} {rt : DK} {ex : Xc → Ev → Sto → Prop} (k : te (x0 :: x1 :: x2 :: x3 :: x4 :: x5 :: x6 :: x7 :: x8 :: x9 :: x10 :: x11 :: x12 :: x13 :: x14 :: x15 :: x16 :: x17 :: x18 :: x19 :: x20 :: x21 :: x22 :: some d :: l) S (fun y S1 => f d y S1 fun z S2 => nx (x0 :: x1 :: x2 :: x3 :: x4 :: x5 :: x6 :: x7 :: x8 :: x9 :: x10 :: x11 :: x12 :: x13 :: x14 :: x15 :: x16 :: x17 :: x18 :: x19 :: x20 :: x21 :: x22 :: some z :: l) S2) fun x S1 => ex x (x0 :: x1 :: x2 :: x3 :: x4 :: x5 :: x6 :: x7 :: x8 :: x9 :: x10 :: x11 :: x12 :: x13 :: x14 :: x15 :: x16 :: x17 :: x18 :: x19 :: x20 :: x21 :: x22 :: some d :: l) S1) : sAug 23 te f (x0 :: x1 :: x2 :: x3 :: x4 :: x5 :: x6 :: x7 :: x8 :: x9 :: x10 :: x11 :: x12 :: x13 :: x14 :: x15 :: x16 :: x17 :: x18 :: x19 :: x20 :: x21 :: x22 :: some d :: l) S ⟨nx, rt, bk, ct, ex⟩ := k
theorem ixT0 {ds : List D} {d : D} {S : Sto} {Q : DK} (k : Q d S) : fIx (.tup (d :: ds)) (.int 0) S Q := ixT (atI_nat (j := 0) rfl) k
theorem ixL0 {ds : List D} {d : D} {S : Sto} {Q : DK} (k : Q d S) : fIx (.lst (d :: ds)) (.int 0) S Q := ixL (atI_nat (j := 0) rfl) k
theorem ixT1 {x0 : D} {ds : List D} {d : D} {S : Sto} {Q : DK} (k : Q d S) : fIx (.tup (x0 :: d :: ds)) (.int 1) S Q := ixT (atI_nat (j := 1) rfl) k
theorem ixL1 {x0 : D} {ds : List D} {d : D} {S : Sto} {Q : DK} (k : Q d S) : fIx (.lst (x0 :: d :: ds)) (.int 1) S Q := ixL (atI_nat (j := 1) rfl) k
theorem ixT2 {x0 x1 : D} {ds : List D} {d : D} {S : Sto} {Q : DK} (k : Q d S) : fIx (.tup (x0 :: x1 :: d :: ds)) (.int 2) S Q := ixT (atI_nat (j := 2) rfl) k
theorem ixL2 {x0 x1 : D} {ds : List D} {d : D} {S : Sto} {Q : DK} (k : Q d S) : fIx (.lst (x0 :: x1 :: d :: ds)) (.int 2) S Q := ixL (atI_nat (j := 2) rfl) k
theorem ixT3 {x0 x1 x2 : D} {ds : List D} {d : D} {S : Sto} {Q : DK} (k : Q d S) : fIx (.tup (x0 :: x1 :: x2 :: d :: ds)) (.int 3) S Q := ixT (atI_nat (j := 3) rfl) k
theorem ixL3 {x0 x1 x2 : D} {ds : List D} {d : D} {S : Sto} {Q : DK} (k : Q d S) : fIx (.lst (x0 :: x1 :: x2 :: d :: ds)) (.int 3) S Q := ixL (atI_nat (j := 3) rfl) k
theorem ixT4 {x0 x1 x2 x3 : D} {ds : List D} {d : D} {S : Sto} {Q : DK} (k : Q d S) : fIx (.tup (x0 :: x1 :: x2 :: x3 :: d :: ds)) (.int 4) S Q := ixT (atI_nat (j := 4) rfl) k
theorem ixL4 {x0 x1 x2 x3 : D} {ds : List D} {d : D} {S : Sto} {Q : DK} (k : Q d S) : fIx (.lst (x0 :: x1 :: x2 :: x3 :: d :: ds)) (.int 4) S Q := ixL (atI_nat (j := 4) rfl) k
theorem ixT5 {x0 x1 x2 x3 x4 : D} {ds : List D} {d : D} {S : Sto} {Q : DK} (k : Q d S) : fIx (.tup (x0 :: x1 :: x2 :: x3 :: x4 :: d :: ds)) (.int 5) S Q := ixT (atI_nat (j := 5) rfl) k
theorem ixL5 {x0 x1 x2 x3 x4 : D} {ds : List D} {d : D} {S : Sto} {Q : DK} (k : Q d S) : fIx (.lst (x0 :: x1 :: x2 :: x3 :: x4 :: d :: ds)) (.int 5) S Q := ixL (atI_nat (j := 5) rfl) k
theorem ixT6 {x0 x1 x2 x3 x4 x5 : D} {ds : List D} {d : D} {S : Sto} {Q : DK} (k : Q d S) : fIx (.tup (x0 :: x1 :: x2 :: x3 :: x4 :: x5 :: d :: ds)) (.int 6) S Q := ixT (atI_nat (j := 6) rfl) k
theorem ixL6 {x0 x1 x2 x3 x4 x5 : D} {ds : List D} {d : D} {S : Sto} {Q : DK} (k : Q d S) : fIx (.lst (x0 :: x1 :: x2 :: x3 :: x4 :: x5 :: d :: ds)) (.int 6) S Q := ixL (atI_nat (j := 6) rfl) k
theorem ixT7 {x0 x1 x2 x3 x4 x5 x6 : D} {ds : List D} {d : D} {S : Sto} {Q : DK} (k : Q d S) : fIx (.tup (x0 :: x1 :: x2 :: x3 :: x4 :: x5 :: x6 :: d :: ds)) (.int 7) S Q := ixT (atI_nat (j := 7) rfl) k
theorem ixL7 {x0 x1 x2 x3 x4 x5 x6 : D} {ds : List D} {d : D} {S : Sto} {Q : DK} (k : Q d S) : fIx (.lst (x0 :: x1 :: x2 :: x3 :: x4 :: x5 :: x6 :: d :: ds)) (.int 7) S Q := ixL (atI_nat (j := 7) rfl) k
theorem startup0 {r : List D} {gs : List Tg} {env : Ev} {S : Sto} {nx : Ev → Sto → Prop} (k : asgLK S gs [.lst r] env nx) : starK 0 0 gs (.tup (r)) env S nx := starG rfl (by simp) (by simp [starD]) k
theorem starlst0 {r : List D} {gs : List Tg} {env : Ev} {S : Sto} {nx : Ev → Sto → Prop} (k : asgLK S gs [.lst r] env nx) : starK 0 0 gs (.lst (r)) env S nx := starG rfl (by simp) (by simp [starD]) k
theorem startup1 {x0 : D} {r : List D} {gs : List Tg} {env : Ev} {S : Sto} {nx : Ev → Sto → Prop} (k : asgLK S gs [x0, .lst r] env nx) : starK 1 0 gs (.tup (x0 :: r)) env S nx := starG rfl (by simp) (by simp [starD]) k
theorem starlst1 {x0 : D} {r : List D} {gs : List Tg} {env : Ev} {S : Sto} {nx : Ev → Sto → Prop} (k : asgLK S gs [x0, .lst r] env nx) : starK 1 0 gs (.lst (x0 :: r)) env S nx := starG rfl (by simp) (by simp [starD]) k
theorem startup2 {x0 x1 : D} {r : List D} {gs : List Tg} {env : Ev} {S : Sto} {nx : Ev → Sto → Prop} (k : asgLK S gs [x0, x1, .lst r] env nx) : starK 2 0 gs (.tup (x0 :: x1 :: r)) env S nx := starG rfl (by simp) (by simp [starD]) k
theorem starlst2 {x0 x1 : D} {r : List D} {gs : List Tg} {env : Ev} {S : Sto} {nx : Ev → Sto → Prop} (k : asgLK S gs [x0, x1, .lst r] env nx) : starK 2 0 gs (.lst (x0 :: x1 :: r)) env S nx := starG rfl (by simp) (by simp [starD]) k
theorem startup3 {x0 x1 x2 : D} {r : List D} {gs : List Tg} {env : Ev} {S : Sto} {nx : Ev → Sto → Prop} (k : asgLK S gs [x0, x1, x2, .lst r] env nx) : starK 3 0 gs (.tup (x0 :: x1 :: x2 :: r)) env S nx := starG rfl (by simp) (by simp [starD]) k
theorem starlst3 {x0 x1 x2 : D} {r : List D} {gs : List Tg} {env : Ev} {S : Sto} {nx : Ev → Sto → Prop} (k : asgLK S gs [x0, x1, x2, .lst r] env nx) : starK 3 0 gs (.lst (x0 :: x1 :: x2 :: r)) env S nx := starG rfl (by simp) (by simp [starD]) k
theorem startup4 {x0 x1 x2 x3 : D} {r : List D} {gs : List Tg} {env : Ev} {S : Sto} {nx : Ev → Sto → Prop} (k : asgLK S gs [x0, x1, x2, x3, .lst r] env nx) : starK 4 0 gs (.tup (x0 :: x1 :: x2 :: x3 :: r)) env S nx := starG rfl (by simp) (by simp [starD]) k
theorem starlst4 {x0 x1 x2 x3 : D} {r : List D} {gs : List Tg} {env : Ev} {S : Sto} {nx : Ev → Sto → Prop} (k : asgLK S gs [x0, x1, x2, x3, .lst r] env nx) : starK 4 0 gs (.lst (x0 :: x1 :: x2 :: x3 :: r)) env S nx := starG rfl (by simp) (by simp [starD]) k
theorem entup0 {S : Sto} {Q : List D → Sto → Prop} (k : Q [] S) : enumK (.tup []) S Q := k
theorem enlst0 {S : Sto} {Q : List D → Sto → Prop} (k : Q [] S) : enumK (.lst []) S Q := k
theorem entup1 {x0 : D} {S : Sto} {Q : List D → Sto → Prop} (k : Q [.tup [.int 0, x0]] S) : enumK (.tup [x0]) S Q := k
theorem enlst1 {x0 : D} {S : Sto} {Q : List D → Sto → Prop} (k : Q [.tup [.int 0, x0]] S) : enumK (.lst [x0]) S Q := k
theorem entup2 {x0 x1 : D} {S : Sto} {Q : List D → Sto → Prop} (k : Q [.tup [.int 0, x0], .tup [.int 1, x1]] S) : enumK (.tup [x0, x1]) S Q := k
theorem enlst2 {x0 x1 : D} {S : Sto} {Q : List D → Sto → Prop} (k : Q [.tup [.int 0, x0], .tup [.int 1, x1]] S) : enumK (.lst [x0, x1]) S Q := k
theorem entup3 {x0 x1 x2 : D} {S : Sto} {Q : List D → Sto → Prop} (k : Q [.tup [.int 0, x0], .tup [.int 1, x1], .tup [.int 2, x2]] S) : enumK (.tup [x0, x1, x2]) S Q := k
theorem enlst3 {x0 x1 x2 : D} {S : Sto} {Q : List D → Sto → Prop} (k : Q [.tup [.int 0, x0], .tup [.int 1, x1], .tup [.int 2, x2]] S) : enumK (.lst [x0, x1, x2]) S Q := k
theorem entup4 {x0 x1 x2 x3 : D} {S : Sto} {Q : List D → Sto → Prop} (k : Q [.tup [.int 0, x0], .tup [.int 1, x1], .tup [.int 2, x2], .tup [.int 3, x3]] S) : enumK (.tup [x0, x1, x2, x3]) S Q := k
theorem enlst4 {x0 x1 x2 x3 : D} {S : Sto} {Q : List D → Sto → Prop} (k : Q [.tup [.int 0, x0], .tup [.int 1, x1], .tup [.int 2, x2], .tup [.int 3, x3]] S) : enumK (.lst [x0, x1, x2, x3]) S Q := k
theorem entup5 {x0 x1 x2 x3 x4 : D} {S : Sto} {Q : List D → Sto → Prop} (k : Q [.tup [.int 0, x0], .tup [.int 1, x1], .tup [.int 2, x2], .tup [.int 3, x3], .tup [.int 4, x4]] S) : enumK (.tup [x0, x1, x2, x3, x4]) S Q := k
theorem enlst5 {x0 x1 x2 x3 x4 : D} {S : Sto} {Q : List D → Sto → Prop} (k : Q [.tup [.int 0, x0], .tup [.int 1, x1], .tup [.int 2, x2], .tup [.int 3, x3], .tup [.int 4, x4]] S) : enumK (.lst [x0, x1, x2, x3, x4]) S Q := k
theorem entup6 {x0 x1 x2 x3 x4 x5 : D} {S : Sto} {Q : List D → Sto → Prop} (k : Q [.tup [.int 0, x0], .tup [.int 1, x1], .tup [.int 2, x2], .tup [.int 3, x3], .tup [.int 4, x4], .tup [.int 5, x5]] S) : enumK (.tup [x0, x1, x2, x3, x4, x5]) S Q := k
theorem enlst6 {x0 x1 x2 x3 x4 x5 : D} {S : Sto} {Q : List D → Sto → Prop} (k : Q [.tup [.int 0, x0], .tup [.int 1, x1], .tup [.int 2, x2], .tup [.int 3, x3], .tup [.int 4, x4], .tup [.int 5, x5]] S) : enumK (.lst [x0, x1, x2, x3, x4, x5]) S Q := k
theorem slfT1 {x0 : D} {r : List D} {S : Sto} {Q : DK} (k : Q (.tup r) S) : fSl (.tup (x0 :: r)) (some 1) none S Q := slT (by unfold Bl.cutD HT.sIx; simp) k
theorem sltT1 {x0 : D} {r : List D} {S : Sto} {Q : DK} (k : Q (.tup [x0]) S) : fSl (.tup (x0 :: r)) none (some 1) S Q := slT (by unfold Bl.cutD HT.sIx; simp) k
theorem slfT2 {x0 x1 : D} {r : List D} {S : Sto} {Q : DK} (k : Q (.tup r) S) : fSl (.tup (x0 :: x1 :: r)) (some 2) none S Q := slT (by unfold Bl.cutD HT.sIx; simp) k
theorem sltT2 {x0 x1 : D} {r : List D} {S : Sto} {Q : DK} (k : Q (.tup [x0, x1]) S) : fSl (.tup (x0 :: x1 :: r)) none (some 2) S Q := slT (by unfold Bl.cutD HT.sIx; simp) k
theorem slfT3 {x0 x1 x2 : D} {r : List D} {S : Sto} {Q : DK} (k : Q (.tup r) S) : fSl (.tup (x0 :: x1 :: x2 :: r)) (some 3) none S Q := slT (by unfold Bl.cutD HT.sIx; simp) k
theorem sltT3 {x0 x1 x2 : D} {r : List D} {S : Sto} {Q : DK} (k : Q (.tup [x0, x1, x2]) S) : fSl (.tup (x0 :: x1 :: x2 :: r)) none (some 3) S Q := slT (by unfold Bl.cutD HT.sIx; simp) k
theorem slfT4 {x0 x1 x2 x3 : D} {r : List D} {S : Sto} {Q : DK} (k : Q (.tup r) S) : fSl (.tup (x0 :: x1 :: x2 :: x3 :: r)) (some 4) none S Q := slT (by unfold Bl.cutD HT.sIx; simp) k
theorem sltT4 {x0 x1 x2 x3 : D} {r : List D} {S : Sto} {Q : DK} (k : Q (.tup [x0, x1, x2, x3]) S) : fSl (.tup (x0 :: x1 :: x2 :: x3 :: r)) none (some 4) S Q := slT (by unfold Bl.cutD HT.sIx; simp) k
theorem slfL1 {x0 : D} {r : List D} {S : Sto} {Q : DK} (k : Q (.lst r) S) : fSl (.lst (x0 :: r)) (some 1) none S Q := slL (by unfold Bl.cutD HT.sIx; simp) k
theorem sltL1 {x0 : D} {r : List D} {S : Sto} {Q : DK} (k : Q (.lst [x0]) S) : fSl (.lst (x0 :: r)) none (some 1) S Q := slL (by unfold Bl.cutD HT.sIx; simp) k
theorem slfL2 {x0 x1 : D} {r : List D} {S : Sto} {Q : DK} (k : Q (.lst r) S) : fSl (.lst (x0 :: x1 :: r)) (some 2) none S Q := slL (by unfold Bl.cutD HT.sIx; simp) k
theorem sltL2 {x0 x1 : D} {r : List D} {S : Sto} {Q : DK} (k : Q (.lst [x0, x1]) S) : fSl (.lst (x0 :: x1 :: r)) none (some 2) S Q := slL (by unfold Bl.cutD HT.sIx; simp) k
theorem slfL3 {x0 x1 x2 : D} {r : List D} {S : Sto} {Q : DK} (k : Q (.lst r) S) : fSl (.lst (x0 :: x1 :: x2 :: r)) (some 3) none S Q := slL (by unfold Bl.cutD HT.sIx; simp) k
theorem sltL3 {x0 x1 x2 : D} {r : List D} {S : Sto} {Q : DK} (k : Q (.lst [x0, x1, x2]) S) : fSl (.lst (x0 :: x1 :: x2 :: r)) none (some 3) S Q := slL (by unfold Bl.cutD HT.sIx; simp) k
theorem slfL4 {x0 x1 x2 x3 : D} {r : List D} {S : Sto} {Q : DK} (k : Q (.lst r) S) : fSl (.lst (x0 :: x1 :: x2 :: x3 :: r)) (some 4) none S Q := slL (by unfold Bl.cutD HT.sIx; simp) k
theorem sltL4 {x0 x1 x2 x3 : D} {r : List D} {S : Sto} {Q : DK} (k : Q (.lst [x0, x1, x2, x3]) S) : fSl (.lst (x0 :: x1 :: x2 :: x3 :: r)) none (some 4) S Q := slL (by unfold Bl.cutD HT.sIx; simp) k
theorem startup_2 {x0 x1 : D} {gs : List Tg} {env : Ev} {S : Sto} {nx : Ev → Sto → Prop} (k : asgLK S gs [.lst [], x0, x1] env nx) : starK 0 2 gs (.tup [x0, x1]) env S nx := starG rfl (by simp) rfl k
theorem starlst_2 {x0 x1 : D} {gs : List Tg} {env : Ev} {S : Sto} {nx : Ev → Sto → Prop} (k : asgLK S gs [.lst [], x0, x1] env nx) : starK 0 2 gs (.lst [x0, x1]) env S nx := starG rfl (by simp) rfl k
theorem startup_3 {x0 x1 x2 : D} {gs : List Tg} {env : Ev} {S : Sto} {nx : Ev → Sto → Prop} (k : asgLK S gs [.lst [x0], x1, x2] env nx) : starK 0 2 gs (.tup [x0, x1, x2]) env S nx := starG rfl (by simp) rfl k
theorem starlst_3 {x0 x1 x2 : D} {gs : List Tg} {env : Ev} {S : Sto} {nx : Ev → Sto → Prop} (k : asgLK S gs [.lst [x0], x1, x2] env nx) : starK 0 2 gs (.lst [x0, x1, x2]) env S nx := starG rfl (by simp) rfl k
theorem startup_4 {x0 x1 x2 x3 : D} {gs : List Tg} {env : Ev} {S : Sto} {nx : Ev → Sto → Prop} (k : asgLK S gs [.lst [x0, x1], x2, x3] env nx) : starK 0 2 gs (.tup [x0, x1, x2, x3]) env S nx := starG rfl (by simp) rfl k
theorem starlst_4 {x0 x1 x2 x3 : D} {gs : List Tg} {env : Ev} {S : Sto} {nx : Ev → Sto → Prop} (k : asgLK S gs [.lst [x0, x1], x2, x3] env nx) : starK 0 2 gs (.lst [x0, x1, x2, x3]) env S nx := starG rfl (by simp) rfl k
end Go

/-! list + list, whatever kind of list -/
namespace PySem.AutoSeq1
theorem list_add_any (l : Addr) (items : Array Value) (n : Nat) (b : Addr) (items2 : Array Value) (n2 : Nat) (s1 s2 : Array (Option Value)) (hc0 : items.size + items2.size ≤ sizeLine) :
    Meets (Builtin.«list.__add__» ⟨[.ref l, .ref b], []⟩) (fun _ R s => s.heap.get? l = some { cls := .type "list", dict := none, data := .seq items n, slots := s1 } ∧ s.heap.get? b = some { cls := .type "list", dict := none, data := .seq items2 n2, slots := s2 } ∧ R (.ok (.ret (Value.ref s.heap.objs.size))) { s with heap := s.heap.push { cls := Value.type "list", data := Data.seq (items ++ items2) }, toks := s.toks }) :=
  .of_wp fun prog w A R s h => by obtain ⟨hp, g, d, tk, os⟩ := s; obtain ⟨hl, hb, h⟩ := h; have f1 := idx_int; have f2 := sub_tuple_tuple; have f3 := sub_list_list; have f4 := sub_tuple_list; have f5 := sub_list_tuple; wp_walk using wpAny_loadPart' hl, wpAny_loadPart' hb; exact ⟨_, rfl, h⟩
end PySem.AutoSeq1
namespace Bl
open PySem PySem.Spec PyProof.Rows L2
section
variable {X : Cx}
def rCatL (K : PySem.W.Frag) : R2 := fun x y H Q => ∃ l b xs zs, x = .ref l ∧ y = .ref b ∧ SqL K H l xs ∧ SqL K H b zs ∧ xs.length + zs.length ≤ sizeLine ∧ ∀ p, H p = none → Q (.ref p) (upd H p (.lst (xs ++ zs)))
theorem op_catL : OpR X (binaryOp .Add) (rCatL X.K) := by
  intro pins s σ H x y v u Q I rx ry h
  obtain ⟨l, b, xs, zs, rfl, rfl, hH, hB, hz, q⟩ := h
  cases rx
  cases ry
  obtain ⟨its, r, ⟨o, n, e, c1, c2, c3⟩, _⟩ := I.list hH
  obtain ⟨its2, r2, ⟨o2, n2, e2, d1, d2, d3⟩, _⟩ := I.list hB
  obtain ⟨cls, dct, dat, sl⟩ := o
  obtain ⟨cls2, dct2, dat2, sl2⟩ := o2
  dsimp only at c1 c2 c3 d1 d2 d3
  subst c1 c2 c3 d1 d2 d3
  have l1 := r.length
  have l2 := r2.length
  refine PySem.concat_meets ⟨_, e, rfl⟩ ⟨_, e2, rfl⟩ PySem.noFill_list_add PySem.seq_list_add F.slot_list_add F.entry_list_add (F.args_list_add_2 _ _) (PySem.AutoSeq1.list_add_any _ _ _ _ _ _ _ _ (by rw [List.size_toArray, List.size_toArray]; omega)) ⟨e, e2, ?_⟩
  have ea : its.toArray ++ its2.toArray = (its ++ its2).toArray := by simp
  rw [ea]
  exact ⟨.ref _, _, I.lnew (t' := s.toks) (r.append r2) (by rw [List.length_append]; omega), rfl, q _ I.fresh⟩
def fCat : F2 := fun x y S Q => match x, y with
  | .lst a, .lst b => a.length + b.length ≤ sizeLine ∧ Q (.lst (a ++ b)) S
  | _, _ => False
theorem moCat : MoF2 fCat := by (intro x y S Q Q' h q; unfold fCat at q ⊢; split at q <;> first | exact h _ _ q | exact ⟨q.1, h _ _ q.2⟩ | exact ⟨q.1, q.2.1, h _ _ q.2.2⟩ | exact q.elim)
theorem lst_sq {K : Kz} {S : Sto} {H : Hp} {ds : List D} {v : V} (h : Rp K S H (.lst ds) v) : ∃ a vs, v = .ref a ∧ SqL K.K H a vs ∧ RpL K S H ds vs := by
  cases h with
  | lst h1 _ _ h2 => exact ⟨_, _, rfl, .inl h1, h2⟩
  | lstK h1 h2 => exact ⟨_, _, rfl, SqL.ofK h1, h2⟩
theorem opD_cat : OpD X (binaryOp .Add) fCat := by
  refine ⟨moCat, fun pins s σ H x y v u Q Z S dx dy I rx ry rs r1 r2 h => ?_⟩
  cases dx <;> first | exact h.elim | skip
  cases dy <;> first | exact h.elim | skip
  obtain ⟨a, vs, rfl, h1, p1⟩ := lst_sq r1
  obtain ⟨b, ws, rfl, h2, p2⟩ := lst_sq r2
  refine op_catL pins s σ H _ _ v u Q I rx ry ⟨_, _, _, _, rfl, rfl, h1, h2, by rw [← p1.length, ← p2.length]; exact h.1, fun p hp => ?_⟩
  obtain ⟨a1, r⟩ := Rp.newL rs hp (p1.append p2)
  exact h.2 _ _ a1 r
end
/-! ### sorted, of whole numbers, of a list that is grown too -/
end Bl

/-! sorted(set(..)) of whole numbers -/
namespace Bl
open PySem PySem.Spec PyProof.Rows L2
section
variable {P : Program} {w : World} {A : Around} {E : Value → Shared → Prop} {s : Shared}
end
end Bl

namespace Bl
open PySem PySem.Spec PyProof.Rows L2
section
variable {X : Cx}
end
/-- whole numbers of a list, grown or not -/
def setK (d : D) (S : Sto) (Q : DK) : Prop := match itemsOf S d with
  | some xs => (match intsOf xs with | some ns => ns.length < 64 ∧ ∀ ms : List Int, ms.Pairwise (· < ·) → (∀ k, k ∈ ms ↔ k ∈ ns) → Q (.lst (ms.map D.int)) S | none => False)
  | none => False
def notTup : D → Bool
  | .tup _ => false
  | _ => true
def dSortSet (t : TEd) : TEd := fun env S Q E => t env S (fun d S1 => notTup d = true ∧ setK d S1 Q) E
theorem moSortSet {t : TEd} (ht : MoE t) : MoE (dSortSet t) := fun env S Q Q' E E' h he q => ht _ _ _ _ _ _ (fun d S1 q1 => ⟨q1.1, by
  have q1 := q1.2
  unfold setK at q1 ⊢
  split at q1
  · split at q1
    · exact ⟨q1.1, fun ms h1 h2 => h _ _ (q1.2 ms h1 h2)⟩
    · exact q1.elim
  · exact q1.elim⟩) he q
section
variable {P : Program} {w : World} {K : PySem.W.Frag} {mg : Str → Option Value} {base : Heap} {N : List Str} {sc : Scope} {vw : Vw} {k : Nat} {X : Cx} {W : WX}
end
/-- list + list, the first one grown or not -/
def fCatR : F2 := fun x y S Q => match x, y with
  | .lst a, .lst b => a.length + b.length ≤ sizeLine ∧ Q (.lst (a ++ b)) S
  | .ref r, .lst b => match S r with
    | some a => a.length + b.length ≤ sizeLine ∧ Q (.lst (a ++ b)) S
    | none => False
  | _, _ => False
theorem moCatR : MoF2 fCatR := fun x y S Q Q' h q => by
  unfold fCatR at q ⊢
  split at q
  · exact ⟨q.1, h _ _ q.2⟩
  · split at q
    · exact ⟨q.1, h _ _ q.2⟩
    · exact q.elim
  · exact q.elim
end Bl

namespace Bl
open PySem PySem.Spec PyProof.Rows L2
variable {X : Cx}
/-- != , the first one a grown list or not -/
def fNeR : F2 := fun x y S Q => match x with
  | .ref r => match S r with
    | some xs => fNe (.lst xs) y S Q
    | none => False
  | x => fNe x y S Q
theorem moNeR : MoF2 fNeR := fun x y S Q Q' h q => by
  unfold fNeR at q ⊢
  split at q
  · split at q
    · exact moNe _ _ _ _ _ h q
    · exact q.elim
  · rename_i hx
    exact moNe _ _ _ _ _ h q
end Bl

/-! zip with strict=True, zip of what is reversed: at the library's level. -/
namespace ZG
open PySem PySem.Spec PyProof.Rows RT
section
variable {prog : Program} {w : World} {A : Around} {E : Value → Shared → Prop} {s : Shared}
end
/-! ### strict -/
section
variable {prog : Program} {w : World} {A : Around} {E : Value → Shared → Prop} {s : Shared} {z TI TO i1 i2 : Addr} {fp1 fp2 : List Addr} {n1 n2 i : Nat} {P1 P2 : Nat → Value → Prop} {St1 St2 : Nat → Heap → Prop} {a1 a2 : Value}
end
/-! ### zip(a, b, strict=True), a and b lists or tuples -/
/-- an iterator begins over v: the object that is laid -/
structure Beg (v : Value) (o : Obj) (Hs : Heap → Prop) : Prop where
  iter : ∀ (prog : Program) (w : World) (A : Around) (E : Value → Shared → Prop) (s : Shared) (Q : Value → Shared → Prop), Hs s.heap → Q (.ref s.heap.objs.size) { s with heap := s.heap.push o } → wpAny (model prog w) A (pyIter v) Q E s
  up : ∀ (h : Heap) (o' : Obj), Hs h → Hs (h.push o')
  free : o.isFreed = false
end ZG

namespace ZG
open PySem PySem.Spec PyProof.Rows RT
section
variable {prog : Program} {w : World} {A : Around} {E : Value → Shared → Prop} {s : Shared}
end
/-! ### zip(reversed(a), reversed(b)) -/
/-- an iterator that is its own -/
structure Own (i : Addr) (Hs : Heap → Prop) : Prop where
  iter : ∀ (prog : Program) (w : World) (A : Around) (E : Value → Shared → Prop) (s : Shared) (Q : Value → Shared → Prop), Hs s.heap → Q (.ref i) s → wpAny (model prog w) A (pyIter (.ref i)) Q E s
section
variable {prog : Program} {w : World} {A : Around} {E : Value → Shared → Prop} {s : Shared}
end
end ZG

/-! zip of lists and tuples, read from either end, strict or not, as a walk. -/
namespace ZG
open PySem PySem.Spec PyProof.Rows L2 RT
inductive SK where
  | l | t | rl | rt
def SK.sq (K : PySem.W.Frag) : SK → Hp → Addr → List V → Prop
  | .l => SqL K | .rl => SqL K | .t => SqT K | .rt => SqT K
def SK.it : SK → Heap → Addr → Addr → Nat → Nat → Prop
  | .l, h, it, a, _, i => h.IsListIter it a i
  | .t, h, it, a, _, i => h.IsTupleIter it a i
  | .rl, h, it, a, n, i => i ≤ n ∧ h.IsRevIter it a ((n : Int) - 1 - (i : Int))
  | .rt, h, it, a, n, i => i ≤ n ∧ IsRt h it a ((n : Int) - 1 - (i : Int))
theorem SK.inj {X : Cx} {pins : List (Addr × Obj)} {σ : L2.St} {H : Hp} {s : Shared} {k : SK} (I : Inv X pins σ H s) {a : Addr} {xs ys : List V} (h1 : k.sq X.K H a xs) (h2 : k.sq X.K H a ys) : xs = ys := by
  cases k with
  | l => exact I.list_inj h1 h2
  | t => exact I.tuple_inj h1 h2
  | rl => exact I.list_inj h1 h2
  | rt => exact I.tuple_inj h1 h2
end ZG

namespace ZG
open PySem PySem.Spec PyProof.Rows L2 RT
theorem SK.lt {X : Cx} {pins : List (Addr × Obj)} {σ : L2.St} {H : Hp} {s : Shared} (k : SK) (I : Inv X pins σ H s) {a : Addr} {xs : List V} (hq : k.sq X.K H a xs) : ∃ o, s.heap.get? a = some o ∧ (o.cls = .type "list" ∨ o.cls = .type "tuple") := by
  cases k with
  | l => obtain ⟨its, rv, p, _⟩ := I.list hq; obtain ⟨o, ho, hc, _⟩ := p.isList; exact ⟨o, ho, .inl hc⟩
  | t => obtain ⟨its, rv, p, _⟩ := I.tuple hq; obtain ⟨o, ho, hc, _⟩ := id p; exact ⟨o, ho, .inr hc⟩
  | rl => obtain ⟨its, rv, p, _⟩ := I.list hq; obtain ⟨o, ho, hc, _⟩ := p.isList; exact ⟨o, ho, .inl hc⟩
  | rt => obtain ⟨its, rv, p, _⟩ := I.tuple hq; obtain ⟨o, ho, hc, _⟩ := id p; exact ⟨o, ho, .inr hc⟩
theorem SK.own {k : SK} (hk : k = .rl ∨ k = .rt) {i a : Addr} {n : Nat} : Own i (fun h => k.it h i a n 0) := by
  rcases hk with rfl | rfl
  · exact ⟨fun _ _ _ _ _ _ h q => wpAny_pyIter_revIter h.2 q⟩
  · exact ⟨fun _ _ _ _ _ _ h q => iter_rt h.2 q⟩
end ZG

namespace Bl
open PySem PySem.Spec PyProof.Rows L2 ZG
/-! ### zip(x, y, strict=True), zip(reversed(x), reversed(y)) over data -/
def zipSK (x y : D) (S : Sto) (Q : List D → Sto → Prop) : Prop := match seqD x with
  | some xs => (match seqD y with | some ys => xs.length = ys.length ∧ Q (zipD xs ys) S | none => False)
  | none => False
def seqK (x : D) (k : List D → Prop) : Prop := match seqD x with
  | some xs => k xs
  | none => False
theorem seqK.imp {x : D} {k k' : List D → Prop} (h : seqK x k) (i : ∀ xs, k xs → k' xs) : seqK x k' := by
  unfold seqK at *
  split at h
  · exact i _ h
  · exact h.elim
theorem seqK.ex {x : D} {k : List D → Prop} (h : seqK x k) : ∃ xs, seqD x = some xs ∧ k xs := by
  unfold seqK at h
  split at h
  · exact ⟨_, by assumption, h⟩
  · exact h.elim
def iZipSD (t u : TEd) : TAd := fun env S Q E => t env S (fun x S1 => u env S1 (fun y S2 => zipSK x y S2 Q) E) E
def iZipRD (t u : TEd) : TAd := fun env S Q E => t env S (fun x S1 => seqK x fun xs => u env S1 (fun y S2 => seqK y fun ys => Q (zipD xs.reverse ys.reverse) S2) E) E
theorem moZipSD {t u : TEd} (ht : MoE t) (hu : MoE u) : MoE (iZipSD t u) := fun env S Q Q' E E' h he q => ht _ _ _ _ _ _ (fun x S1 q1 => hu _ _ _ _ _ _ (fun y S2 q2 => by
  unfold zipSK at q2 ⊢
  split at q2
  · split at q2
    · exact ⟨q2.1, h _ _ q2.2⟩
    · exact q2.elim
  · exact q2.elim) he q1) he q
theorem moZipRD {t u : TEd} (ht : MoE t) (hu : MoE u) : MoE (iZipRD t u) := fun env S Q Q' E E' h he q => ht _ _ _ _ _ _ (fun x S1 q1 => q1.imp fun xs q1 => hu _ _ _ _ _ _ (fun y S2 q2 => q2.imp fun ys q2 => h _ _ q2) he q1) he q
section
variable {P : Program} {w : World} {K : PySem.W.Frag} {mg : Str → Option Value} {base : Heap} {N : List Str} {sc : Scope} {vw : Vw} {k : Nat} {X : Cx} {W : WX}
end
end Bl

namespace Go
open PySem PySem.Spec PyProof.Rows L2 Bl Lb
section
variable {env : Ev} {S : Sto} {E : EK} {t u : TEd} {Q : List D → Sto → Prop} {ds es : List D} {a b : D} {N : Nd} {g : Tg} {tb : TSd} {tt : TTd} {te : TEd} {k' : List D → Prop}
theorem zipS' (k : t env S (fun x S1 => u env S1 (fun y S2 => zipSK x y S2 Q) E) E) : iZipSD t u env S Q E := k
theorem zipST (h : Nat.beq ds.length es.length = true) (k : Q (zipD ds es) S) : zipSK (.tup ds) (.tup es) S Q := ⟨Nat.eq_of_beq_eq_true h, k⟩
theorem zipSL (h : Nat.beq ds.length es.length = true) (k : Q (zipD ds es) S) : zipSK (.lst ds) (.lst es) S Q := ⟨Nat.eq_of_beq_eq_true h, k⟩
theorem zipR' (k : t env S (fun x S1 => seqK x fun xs => u env S1 (fun y S2 => seqK y fun ys => Q (zipD xs.reverse ys.reverse) S2) E) E) : iZipRD t u env S Q E := k
theorem seqT (k : k' ds) : seqK (.tup ds) k' := k
theorem seqL (k : k' ds) : seqK (.lst ds) k' := k
theorem for_zc (k : forD g tb (.tup [a, b] :: zipD ds es) env S N) : forD g tb (zipD (a :: ds) (b :: es)) env S N := k
theorem for_zn (k : forD g tb [] env S N) : forD g tb (zipD [] es) env S N := k
theorem lg_zc {Q : List D → Sto → Prop} (k : lcGo g tt te env (.tup [a, b] :: zipD ds es) S Q) : lcGo g tt te env (zipD (a :: ds) (b :: es)) S Q := k
theorem lg_zn {Q : List D → Sto → Prop} (k : lcGo g tt te env [] S Q) : lcGo g tt te env (zipD [] es) S Q := k
end
end Go
namespace Go
open PySem PySem.Spec PyProof.Rows L2 Bl Lb
end Go
namespace Go
open PySem PySem.Spec PyProof.Rows L2 Bl Lb
theorem frz {i : Nat} {env : Ev} {S : Sto} {N : Nd} {t : TSd} {a : Addr} {ds : List D} (e : env[i]? = some (some (.ref a))) (h : S a = some ds) (k : t (env.set i (some (.lst ds))) (sdel S a) N) : sFrz i t env S N := by
  unfold sFrz
  rw [e]
  dsimp only
  rw [h]
  exact k
end Go

namespace Lb
open PySem PySem.Spec PyProof.Rows L2 Bl
/-! ### == of a thing and itself; what may be compared -/
mutual
theorem eqD_refl : ∀ d : D, pl d = true → eqD d d = true
  | .non, _ => rfl
  | .bl b, _ => by cases b <;> rfl
  | .int i, _ => by show (i == i) = true; exact beq_self_eq_true i
  | .str x, _ => by show (x == x) = true; exact beq_self_eq_true x
  | .tup ds, h => eqL_refl ds h
  | .lst ds, h => eqL_refl ds h
  | .ref _, h => by cases h
  | .obj _, h => by cases h
theorem eqL_refl : ∀ ds : List D, plL ds = true → PyData.eqvAll (pyL ds) (pyL ds) = true
  | [], _ => rfl
  | d :: ds, h => by
    obtain ⟨h1, h2⟩ := Bool.and_eq_true_iff.mp (show (pl d && plL ds) = true from h)
    show (PyData.eqv (py d) (py d) && PyData.eqvAll (pyL ds) (pyL ds)) = true
    rw [show PyData.eqv (py d) (py d) = true from eqD_refl d h1, eqL_refl ds h2]
    rfl
end
structure okN (n : Nat) (d : D) : Prop where
  p : pl d = true
  c : (py d).canLay0 = true
  d : (py d).depth ≤ n
theorem okN.ok {n : Nat} {d : D} (h : okN n d) (hn : n ≤ 64) : okD d := ⟨h.p, by
  unfold SeqAt.shaped
  rw [h.c]
  exact decide_eq_true (Nat.le_trans h.d hn)⟩
theorem okN.mono {m n : Nat} {d : D} (h : okN m d) (l : m ≤ n) : okN n d := ⟨h.p, h.c, Nat.le_trans h.d l⟩
structure okNs (n : Nat) (ds : List D) : Prop where
  p : plL ds = true
  c : PyData.canLayAll0 (pyL ds) = true
  d : PyData.depthAll (pyL ds) ≤ n
end Lb

namespace Lb
open PySem PySem.Spec PyProof.Rows L2 Bl
def t_far_square : TSd := sRet (dTwo (dTwo (dTwo (dTwo (vr 0) (cn (.int 0)) fIx) (dTwo (vr 1) (cn (.int 0)) fIx) fSub) (cn (.int 2)) fPow) (dTwo (dTwo (dTwo (vr 0) (cn (.int 1)) fIx) (dTwo (vr 1) (cn (.int 1)) fIx) fSub) (cn (.int 2)) fPow) fAdd)
def m_far_square : TFd := fnD 2 2 t_far_square
theorem e_far_square {a0 a1 : D} {S : Sto} {Q : DK} {E : EK} (k : t_far_square [some a0, some a1] S ⟨fun _ S1 => Q .non S1, Q, fun _ _ => False, fun _ _ => False, fun x _ S1 => E x S1⟩) : m_far_square [a0, a1] S Q E := ⟨rfl, k⟩
def t_step_from : TSd := sRet (dTup (aCons (dTwo (dTwo (vr 0) (cn (.int 0)) fIx) (dTwo (vr 1) (cn (.int 0)) fIx) fSub) (aCons (dTwo (dTwo (vr 0) (cn (.int 1)) fIx) (dTwo (vr 1) (cn (.int 1)) fIx) fSub) (aNil))))
def m_step_from : TFd := fnD 2 2 t_step_from
theorem e_step_from {a0 a1 : D} {S : Sto} {Q : DK} {E : EK} (k : t_step_from [some a0, some a1] S ⟨fun _ S1 => Q .non S1, Q, fun _ _ => False, fun _ _ => False, fun x _ S1 => E x S1⟩) : m_step_from [a0, a1] S Q E := ⟨rfl, k⟩
def t_lowest : TSd := sSeq (sAsg (dCall m_common 2 0 (fun ds _ => ds) (aCons (dTwo (vr 0) (cn (.int 0)) fIx) (aCons (dTwo (vr 0) (cn (.int 1)) fIx) (aNil))) aNil) (.nm 1)) (sRet (dTup (aCons (dTwo (dTwo (vr 0) (cn (.int 0)) fIx) (vr 1) fDiv) (aCons (dTwo (dTwo (vr 0) (cn (.int 1)) fIx) (vr 1) fDiv) (aNil)))))
def m_lowest : TFd := fnD 1 2 t_lowest
theorem e_lowest {a0 : D} {S : Sto} {Q : DK} {E : EK} (k : t_lowest [some a0, none] S ⟨fun _ S1 => Q .non S1, Q, fun _ _ => False, fun _ _ => False, fun x _ S1 => E x S1⟩) : m_lowest [a0] S Q E := ⟨rfl, k⟩
def t_outward : TSd := sSeq (sAsg (dCall m_step_from 2 0 (fun ds _ => ds) (aCons (vr 1) (aCons (vr 0) (aNil))) aNil) (.tp (.nm 2 :: .nm 3 :: []))) (sRet (dCall m_lowest 1 0 (fun ds _ => ds) (aCons (dTup (aCons (vr 3) (aCons (dTwo (cn (.int 0)) (vr 2) fSub) (aNil)))) (aNil)) aNil))
def m_outward : TFd := fnD 2 4 t_outward
theorem e_outward {a0 a1 : D} {S : Sto} {Q : DK} {E : EK} (k : t_outward [some a0, some a1, none, none] S ⟨fun _ S1 => Q .non S1, Q, fun _ _ => False, fun _ _ => False, fun x _ S1 => E x S1⟩) : m_outward [a0, a1] S Q E := ⟨rfl, k⟩
def t_faces : TSd := sSeq (sStar (vr 0) 1 0 [.nm 1, .nm 2]) (sSeq (sIf (tbl (dTwo (vr 1) (cn (.str "spot")) fEq)) (sRet (dTup (aCons (dTup (aCons (cn (.str "round")) (aCons (dTwo (vr 2) (cn (.int 0)) fIx) (aCons (cn (.int 0)) (aCons (dTup (aCons (cn (.int 1)) (aCons (cn (.int 0)) (aNil)))) (aCons (dTup (aCons (cn (.int 1)) (aCons (cn (.int 0)) (aNil)))) (aNil))))))) (aNil)))) (sNx)) (sSeq (sStar (vr 2) 0 2 [.nm 3, .nm 4, .nm 5]) (sSeq (sAsg (dCall m_outward 2 0 (fun ds _ => ds) (aCons (vr 5) (aCons (vr 4) (aNil))) aNil) (.nm 6)) (sSeq (sIf (tbl (dTwo (vr 1) (cn (.str "cord")) fEq)) (sSeq (sAsg (dCall m_outward 2 0 (fun ds _ => ds) (aCons (vr 4) (aCons (vr 5) (aNil))) aNil) (.nm 7)) (sRet (dTup (aCons (dTup (aCons (cn (.str "side")) (aCons (vr 4) (aCons (vr 5) (aNil))))) (aCons (dTup (aCons (cn (.str "round")) (aCons (vr 5) (aCons (cn (.int 0)) (aCons (vr 7) (aCons (vr 6) (aNil))))))) (aCons (dTup (aCons (cn (.str "side")) (aCons (vr 5) (aCons (vr 4) (aNil))))) (aCons (dTup (aCons (cn (.str "round")) (aCons (vr 4) (aCons (cn (.int 0)) (aCons (vr 6) (aCons (vr 7) (aNil))))))) (aNil)))))))) (sNx)) (sSeq (sAsg (dTwo (vr 3) (cn (.int 0)) fIx) (.nm 8)) (sSeq (sPar [9, 10] (aCons (dCall m_lowest 1 0 (fun ds _ => ds) (aCons (dCall m_step_from 2 0 (fun ds _ => ds) (aCons (vr 4) (aCons (vr 8) (aNil))) aNil) (aNil)) aNil) (aCons (dCall m_lowest 1 0 (fun ds _ => ds) (aCons (dCall m_step_from 2 0 (fun ds _ => ds) (aCons (vr 5) (aCons (vr 8) (aNil))) aNil) (aNil)) aNil) (aNil)))) (sSeq (sAsg (dTup (aCons (cn (.str "round")) (aCons (vr 8) (aCons (dCall m_whole_root 1 0 (fun ds _ => ds) (aCons (dCall m_far_square 2 0 (fun ds _ => ds) (aCons (vr 8) (aCons (vr 4) (aNil))) aNil) (aNil)) aNil) (aCons (vr 9) (aCons (vr 10) (aNil))))))) (.nm 11)) (sRet (dTup (aCons (vr 11) (aCons (dTup (aCons (cn (.str "round")) (aCons (vr 5) (aCons (cn (.int 0)) (aCons (vr 10) (aCons (vr 6) (aNil))))))) (aCons (dTup (aCons (cn (.str "side")) (aCons (vr 5) (aCons (vr 4) (aNil))))) (aCons (dTup (aCons (cn (.str "round")) (aCons (vr 4) (aCons (cn (.int 0)) (aCons (vr 6) (aCons (vr 9) (aNil))))))) (aNil))))))))))))))
def m_faces : TFd := fnD 1 12 t_faces
theorem e_faces {a0 : D} {S : Sto} {Q : DK} {E : EK} (k : t_faces [some a0, none, none, none, none, none, none, none, none, none, none, none] S ⟨fun _ S1 => Q .non S1, Q, fun _ _ => False, fun _ _ => False, fun x _ S1 => E x S1⟩) : m_faces [a0] S Q E := ⟨rfl, k⟩
def t_l_point : TSd := sRet (dTup (aCons (dTwo (dCall m_l_take 2 0 (fun ds _ => ds) (aCons (vr 0) (aCons (dTwo (dTwo (cn (.int 2)) (vr 1) fMul) (cn (.int 1)) fAdd) (aNil))) aNil) (vr 1) fSub) (aCons (dTwo (dCall m_l_take 2 0 (fun ds _ => ds) (aCons (vr 0) (aCons (dTwo (dTwo (cn (.int 2)) (vr 1) fMul) (cn (.int 1)) fAdd) (aNil))) aNil) (vr 1) fSub) (aNil))))
def m_l_point : TFd := fnD 2 2 t_l_point
theorem e_l_point {a0 a1 : D} {S : Sto} {Q : DK} {E : EK} (k : t_l_point [some a0, some a1] S ⟨fun _ S1 => Q .non S1, Q, fun _ _ => False, fun _ _ => False, fun x _ S1 => E x S1⟩) : m_l_point [a0, a1] S Q E := ⟨rfl, k⟩
def t_l_turned : TSd := sSeq (sAsg (vr 0) (.tp (.nm 2 :: .nm 3 :: []))) (sSeq (sFor (iR1 (aCons (vr 1) (aNil))) (.nm 4) (sPar [2, 3] (aCons (dTwo (cn (.int 0)) (vr 3) fSub) (aCons (vr 2) (aNil))))) (sRet (dTup (aCons (vr 2) (aCons (vr 3) (aNil))))))
def m_l_turned : TFd := fnD 2 5 t_l_turned
theorem e_l_turned {a0 a1 : D} {S : Sto} {Q : DK} {E : EK} (k : t_l_turned [some a0, some a1, none, none, none] S ⟨fun _ S1 => Q .non S1, Q, fun _ _ => False, fun _ _ => False, fun x _ S1 => E x S1⟩) : m_l_turned [a0, a1] S Q E := ⟨rfl, k⟩
def t_l_added : TSd := sRet (dTup (aCons (dTwo (dTwo (vr 0) (cn (.int 0)) fIx) (dTwo (vr 1) (cn (.int 0)) fIx) fAdd) (aCons (dTwo (dTwo (vr 0) (cn (.int 1)) fIx) (dTwo (vr 1) (cn (.int 1)) fIx) fAdd) (aNil))))
def m_l_added : TFd := fnD 2 2 t_l_added
theorem e_l_added {a0 a1 : D} {S : Sto} {Q : DK} {E : EK} (k : t_l_added [some a0, some a1] S ⟨fun _ S1 => Q .non S1, Q, fun _ _ => False, fun _ _ => False, fun x _ S1 => E x S1⟩) : m_l_added [a0, a1] S Q E := ⟨rfl, k⟩
def t_l_thing : TSd := sSeq (sPar [2, 3] (aCons (dCall m_l_take 2 0 (fun ds _ => ds) (aCons (vr 0) (aCons (cn (.int 6)) (aNil))) aNil) (aCons (dCall m_l_point 2 0 (fun ds _ => ds) (aCons (vr 0) (aCons (vr 1) (aNil))) aNil) (aNil)))) (sSeq (sIf (tbl (dTwo (vr 2) (cn (.int 2)) fLt)) (sRet (dTup (aCons (cn (.str "spot")) (aCons (vr 3) (aNil))))) (sNx)) (sSeq (sAsg (dTwo (dLst (aCons (dTup (aCons (cn (.int 1)) (aCons (cn (.int 0)) (aNil)))) (aCons (dTup (aCons (cn (.int 3)) (aCons (cn (.int 4)) (aNil)))) (aCons (dTup (aCons (cn (.int 4)) (aCons (cn (.int 3)) (aNil)))) (aCons (dTup (aCons (cn (.int 5)) (aCons (cn (.int 12)) (aNil)))) (aCons (dTup (aCons (cn (.int 12)) (aCons (cn (.int 5)) (aNil)))) (aCons (dTup (aCons (cn (.int 8)) (aCons (cn (.int 15)) (aNil)))) (aCons (dTup (aCons (cn (.int 2)) (aCons (cn (.int 0)) (aNil)))) (aCons (dTup (aCons (cn (.int 6)) (aCons (cn (.int 8)) (aNil)))) (aNil)))))))))) (dCall m_l_take 2 0 (fun ds _ => ds) (aCons (vr 0) (aCons (cn (.int 8)) (aNil))) aNil) fIx) (.tp (.nm 4 :: .nm 5 :: []))) (sSeq (sPar [6, 7] (aCons (dCall m_l_take 2 0 (fun ds _ => ds) (aCons (vr 0) (aCons (cn (.int 4)) (aNil))) aNil) (aCons (dTwo (cn (.int 1)) (dCall m_l_take 2 0 (fun ds _ => ds) (aCons (vr 0) (aCons (dTwo (dLst (aCons (cn (.int 1)) (aCons (cn (.int 3)) (aNil)))) (dCall m_l_take 2 0 (fun ds _ => ds) (aCons (vr 0) (aCons (cn (.int 2)) (aNil))) aNil) fIx) (aNil))) aNil) fAdd) (aNil)))) (sSeq (sAsg (dCall m_l_turned 2 0 (fun ds _ => ds) (aCons (dTup (aCons (dTwo (vr 4) (vr 7) fMul) (aCons (dTwo (vr 5) (vr 7) fMul) (aNil)))) (aCons (vr 6) (aNil))) aNil) (.nm 8)) (sSeq (sIf (tbl (dTwo (vr 2) (cn (.int 4)) fLt)) (sRet (dTup (aCons (cn (.str "cord")) (aCons (vr 3) (aCons (dCall m_l_added 2 0 (fun ds _ => ds) (aCons (vr 3) (aCons (vr 8) (aNil))) aNil) (aNil)))))) (sNx)) (sSeq (sPar [9, 10] (aCons (dTup (aCons (dTwo (vr 4) (vr 7) fMul) (aCons (dTwo (vr 5) (vr 7) fMul) (aNil)))) (aCons (dTup (aCons (dTwo (cn (.int 0)) (dTwo (vr 4) (vr 7) fMul) fSub) (aCons (dTwo (vr 5) (vr 7) fMul) (aNil)))) (aNil)))) (sSeq (sAsg (dCall m_l_take 2 0 (fun ds _ => ds) (aCons (vr 0) (aCons (cn (.int 3)) (aNil))) aNil) (.nm 11)) (sSeq (sIf (tOrD (tbl (dTwo (vr 11) (cn (.int 0)) fEq)) (tbl (dTwo (vr 5) (cn (.int 0)) fEq))) (sAsg (dTup (aCons (dTwo (cn (.int 0)) (dTwo (vr 9) (cn (.int 0)) fIx) fSub) (aCons (dTwo (cn (.int 0)) (dTwo (vr 9) (cn (.int 1)) fIx) fSub) (aNil)))) (.nm 10)) (sIf (tbl (dTwo (vr 11) (cn (.int 1)) fEq)) (sPar [9, 10] (aCons (dTup (aCons (dTwo (cn (.int 25)) (vr 7) fMul) (aCons (cn (.int 0)) (aNil)))) (aCons (dTup (aCons (dTwo (cn (.int 7)) (vr 7) fMul) (aCons (dTwo (cn (.int 24)) (vr 7) fMul) (aNil)))) (aNil)))) (sNx))) (sRet (dTup (aCons (cn (.str "bow")) (aCons (vr 3) (aCons (dCall m_l_added 2 0 (fun ds _ => ds) (aCons (vr 3) (aCons (dCall m_l_turned 2 0 (fun ds _ => ds) (aCons (vr 9) (aCons (vr 6) (aNil))) aNil) (aNil))) aNil) (aCons (dCall m_l_added 2 0 (fun ds _ => ds) (aCons (vr 3) (aCons (dCall m_l_turned 2 0 (fun ds _ => ds) (aCons (vr 10) (aCons (vr 6) (aNil))) aNil) (aNil))) aNil) (aNil)))))))))))))))
def m_l_thing : TFd := fnD 2 12 t_l_thing
theorem e_l_thing {a0 a1 : D} {S : Sto} {Q : DK} {E : EK} (k : t_l_thing [some a0, some a1, none, none, none, none, none, none, none, none, none, none] S ⟨fun _ S1 => Q .non S1, Q, fun _ _ => False, fun _ _ => False, fun x _ S1 => E x S1⟩) : m_l_thing [a0, a1] S Q E := ⟨rfl, k⟩
end Lb

section
local macro_rules | `(tactic| walk_at "blz") => `(tactic| fail)
local macro_rules | `(tactic| walk_at "bl0") => `(tactic| (with_reducible (first
  | (refine Go.gVr ?_; first | refine Go.vr0 ?_ | refine Go.vr1 ?_ | refine Go.vr2 ?_ | refine Go.vr3 ?_ | refine Go.vr4 ?_ | refine Go.vr5 ?_ | refine Go.vr6 ?_ | refine Go.vr7 ?_ | refine Go.vr8 ?_ | refine Go.vr9 ?_ | refine Go.vr10 ?_ | refine Go.vr11 ?_ | refine Go.vr12 ?_ | refine Go.vr13 ?_ | refine Go.vr14 ?_ | refine Go.vr15 ?_ | refine Go.vr16 ?_ | refine Go.vr17 ?_ | refine Go.vr18 ?_ | refine Go.vr19 ?_ | refine Go.vr20 ?_ | refine Go.vr21 ?_ | refine Go.vr22 ?_ | refine Go.vr23 ?_)
  | refine Go.two ?_
  | refine Go.cn' ?_
  | (refine Go.gIxT ?_; first | refine Go.ixT0 ?_ | refine Go.ixT1 ?_ | refine Go.ixT2 ?_ | refine Go.ixT3 ?_ | refine Go.ixT4 ?_ | refine Go.ixT5 ?_ | refine Go.ixT6 ?_ | refine Go.ixT7 ?_)
  | refine Go.cons ?_
  | refine Go.nil ?_
  | (refine Go.gAsg ?_; first | refine Go.set0 ?_ | refine Go.set1 ?_ | refine Go.set2 ?_ | refine Go.set3 ?_ | refine Go.set4 ?_ | refine Go.set5 ?_ | refine Go.set6 ?_ | refine Go.set7 ?_ | refine Go.set8 ?_ | refine Go.set9 ?_ | refine Go.set10 ?_ | refine Go.set11 ?_ | refine Go.set12 ?_ | refine Go.set13 ?_ | refine Go.set14 ?_ | refine Go.set15 ?_ | refine Go.set16 ?_ | refine Go.set17 ?_ | refine Go.set18 ?_ | refine Go.set19 ?_ | refine Go.set20 ?_ | refine Go.set21 ?_ | refine Go.set22 ?_ | refine Go.set23 ?_ | refine Go.tp_cons ?_ | refine Go.tp_nil ?_)
  | refine Go.seq ?_
  | refine Go.asg ?_
  | refine Go.call ?_
  | refine Go.callK' rfl rfl ?_
  | refine Go.tup ?_
  | refine Go.tupK' rfl ?_
  | refine Go.tbl' ?_
  | refine Go.tblK' ?_
  | refine Go.if' ?_
  | refine Go.ret ?_
  | refine Go.nx' ?_
  | refine Go.add ?_
  | refine Go.sub' ?_
  | refine Go.par ?_
  | refine Go.par_cons ?_
  | refine Go.par_nil ?_
  | refine Go.and' ?_
  | refine Go.or' ?_
  | refine Go.not' ?_
  | refine Go.ifT ?_
  | refine Go.ifF ?_
  | refine Go.ifN ?_
  | refine Go.lt ?_
  | refine Go.le ?_
  | refine Go.gt ?_
  | refine Go.ge ?_
  | refine Go.eqI ?_
  | refine Go.neI ?_
  | refine Go.ttr' ?_
  | refine Go.truB ?_
  | refine Go.eIf' ?_
  | refine Go.dB' ?_
  | refine Go.for' ?_
  | (refine Go.gIxL ?_; first | refine Go.ixL0 ?_ | refine Go.ixL1 ?_ | refine Go.ixL2 ?_ | refine Go.ixL3 ?_ | refine Go.ixL4 ?_ | refine Go.ixL5 ?_ | refine Go.ixL6 ?_ | refine Go.ixL7 ?_)
  | refine Go.drop ?_
  | refine Go.brk ?_
  | refine Go.cnt ?_
  | refine Go.raise ?_
  | refine Go.thru ?_
  | refine Go.tryAs ?_
  | refine Go.sub ?_
  | refine Go.retN ?_
  | refine Go.lst ?_
  | refine Go.lstR ?_
  | refine Go.truI ?_
  | refine Go.truN ?_
  | refine Go.vOf' ?_
  | refine Go.vNot' ?_
  | refine Go.is' ?_
  | refine Go.isNot' ?_
  | refine Go.chain ?_
  | refine Go.neg ?_
  | refine Go.neg' ?_
  | refine Go.abs' ?_
  | refine Go.lenT ?_
  | refine Go.lenL ?_
  | refine Go.max' ?_
  | refine Go.min' ?_
  | refine Go.intI ?_
  | refine Go.intB ?_
  | refine Go.tupL ?_
  | refine Go.tupT ?_
  | refine Go.isi ?_
  | refine Go.iVal' ?_
  | refine Go.iValT ?_
  | refine Go.iValL ?_
  | refine Go.r1 ?_
  | refine Go.r2 ?_
  | refine Go.star ?_
  | refine Go.l_cons ?_
  | refine Go.l_nil ?_
  | refine Go.enum' ?_
  | refine Go.rev' ?_
  | refine Go.zip' ?_
  | refine Go.wipe_nil ?_
  | refine Go.wipe_cons ?_
  | refine Go.iadd ?_
  | refine Go.sl ?_
  | refine Go.oN ?_
  | refine Go.oS ?_
  | refine Go.osK' ?_
  | refine Go.getL ?_
  | refine Go.lc ?_
  | refine Go.lcR ?_
  | refine Go.lg_nil ?_
  | refine Go.lg_cons ?_
  | refine Go.yes ?_
  | refine Go.for_nil ?_
  | refine Go.for_cons ?_
  | refine Go.revT ?_
  | refine Go.revL ?_
  | refine Go.zipT ?_
  | refine Go.zipL ?_
  | refine Go.lstK' rfl ?_
  | refine Go.lcL rfl ?_
  | refine Go.getLL' rfl ?_
  | refine Go.addT rfl ?_
  | (refine Go.gAug ?_; first | refine Go.aug0 ?_ | refine Go.aug1 ?_ | refine Go.aug2 ?_ | refine Go.aug3 ?_ | refine Go.aug4 ?_ | refine Go.aug5 ?_ | refine Go.aug6 ?_ | refine Go.aug7 ?_ | refine Go.aug8 ?_ | refine Go.aug9 ?_ | refine Go.aug10 ?_ | refine Go.aug11 ?_ | refine Go.aug12 ?_ | refine Go.aug13 ?_ | refine Go.aug14 ?_ | refine Go.aug15 ?_ | refine Go.aug16 ?_ | refine Go.aug17 ?_ | refine Go.aug18 ?_ | refine Go.aug19 ?_ | refine Go.aug20 ?_ | refine Go.aug21 ?_ | refine Go.aug22 ?_ | refine Go.aug23 ?_)
  | (refine Go.gStar ?_; first | refine Go.startup0 ?_ | refine Go.starlst0 ?_ | refine Go.startup1 ?_ | refine Go.starlst1 ?_ | refine Go.startup2 ?_ | refine Go.starlst2 ?_ | refine Go.startup3 ?_ | refine Go.starlst3 ?_ | refine Go.startup4 ?_ | refine Go.starlst4 ?_ | refine Go.startup_2 ?_ | refine Go.starlst_2 ?_ | refine Go.startup_3 ?_ | refine Go.starlst_3 ?_ | refine Go.startup_4 ?_ | refine Go.starlst_4 ?_)
  | refine Go.slfT1 ?_ | refine Go.sltT1 ?_ | refine Go.slfL1 ?_ | refine Go.sltL1 ?_ | refine Go.slfT2 ?_ | refine Go.sltT2 ?_ | refine Go.slfL2 ?_ | refine Go.sltL2 ?_ | refine Go.slfT3 ?_ | refine Go.sltT3 ?_ | refine Go.slfL3 ?_ | refine Go.sltL3 ?_ | refine Go.slfT4 ?_ | refine Go.sltT4 ?_ | refine Go.slfL4 ?_ | refine Go.sltL4 ?_
  | (refine Go.gUns ?_; first | refine Go.uns0 ?_ | refine Go.uns1 ?_ | refine Go.uns2 ?_ | refine Go.uns3 ?_ | refine Go.uns4 ?_ | refine Go.uns5 ?_ | refine Go.uns6 ?_ | refine Go.uns7 ?_ | refine Go.uns8 ?_ | refine Go.uns9 ?_ | refine Go.uns10 ?_ | refine Go.uns11 ?_ | refine Go.uns12 ?_ | refine Go.uns13 ?_ | refine Go.uns14 ?_ | refine Go.uns15 ?_ | refine Go.uns16 ?_ | refine Go.uns17 ?_ | refine Go.uns18 ?_ | refine Go.uns19 ?_ | refine Go.uns20 ?_ | refine Go.uns21 ?_ | refine Go.uns22 ?_ | refine Go.uns23 ?_)
  | refine Go.entup0 ?_ | refine Go.enlst0 ?_ | refine Go.entup1 ?_ | refine Go.enlst1 ?_ | refine Go.entup2 ?_ | refine Go.enlst2 ?_ | refine Go.entup3 ?_ | refine Go.enlst3 ?_ | refine Go.entup4 ?_ | refine Go.enlst4 ?_ | refine Go.entup5 ?_ | refine Go.enlst5 ?_ | refine Go.entup6 ?_ | refine Go.enlst6 ?_)))
local macro_rules | `(tactic| walk_at "bl1") => `(tactic| first | walk_at "bl0" | walk_at "blz" | ((with_reducible refine Go.gEqS ?_); (first | refine Go.eqS (b := true) ⟨rfl, by decide +kernel⟩ ⟨rfl, by decide +kernel⟩ rfl ?_ | refine Go.eqS (b := false) ⟨rfl, by decide +kernel⟩ ⟨rfl, by decide +kernel⟩ rfl ?_)) | ((with_reducible refine Go.gNeS ?_); (first | refine Go.neS (b := true) ⟨rfl, by decide +kernel⟩ ⟨rfl, by decide +kernel⟩ rfl ?_ | refine Go.neS (b := false) ⟨rfl, by decide +kernel⟩ ⟨rfl, by decide +kernel⟩ rfl ?_)) | ((with_reducible refine Go.gAll ?_); (refine Go.allB (by rfl) ?_)) | ((with_reducible refine Go.gIxT ?_); (refine Go.ixT (by rfl) ?_)) | ((with_reducible refine Go.gIxL ?_); (refine Go.ixL (by rfl) ?_)))
local macro_rules | `(tactic| walk_at "bl") => `(tactic| (repeat walk_at "bl1"))
namespace Lb
open PySem PySem.Spec PyProof.Rows L2 Bl
/-! ### points, things, faces -/
abbrev P2 := Int × Int
abbrev pt (p : P2) : D := .tup [.int p.1, .int p.2]
inductive Th where
  | spot (p : P2)
  | cord (p q : P2)
  | bow (c p q : P2)
inductive Fc where
  | side (a b : P2)
  | round (c : P2) (r : Int) (f l : P2)
def thD : Th → D
  | .spot p => .tup [.str "spot", pt p]
  | .cord p q => .tup [.str "cord", pt p, pt q]
  | .bow c p q => .tup [.str "bow", pt c, pt p, pt q]
def fcD : Fc → D
  | .side a b => .tup [.str "side", pt a, pt b]
  | .round c r f l => .tup [.str "round", pt c, .int r, pt f, pt l]
def Bd (p : P2) : Prop := p.1.natAbs ≤ 1000 ∧ p.2.natAbs ≤ 1000
def dif (a b : P2) : P2 := (a.1 - b.1, a.2 - b.2)
def dot (a b : P2) : Int := a.1 * b.1 + a.2 * b.2
def crs (a b : P2) : Int := a.1 * b.2 - a.2 * b.1
def far (a b : P2) : Int := dot (dif a b) (dif a b)
def Whole (n : Int) : Prop := ∃ r : Int, 0 ≤ r ∧ n = r * r
structure BowOk (c p q : P2) : Prop where
  ne : p ≠ q
  eq : far c p = far c q
  wr : Whole (far c p)
  wd : Whole (far p q)
  tn : 0 ≤ crs (dif p c) (dif q c)
def GoodTh : Th → Prop
  | .spot p => Bd p
  | .cord p q => Bd p ∧ Bd q ∧ p ≠ q ∧ Whole (far p q)
  | .bow c p q => Bd c ∧ Bd p ∧ Bd q ∧ BowOk c p q
/-- a direction in lowest terms -/
def low (d : P2) : P2 := (d.1 / (Int.gcd d.1 d.2 : Int), d.2 / (Int.gcd d.1 d.2 : Int))
def outw (a b : P2) : P2 := low ((dif b a).2, 0 - (dif b a).1)
def facesL : Th → List Fc
  | .spot p => [.round p 0 (1, 0) (1, 0)]
  | .cord p q => [.side p q, .round q 0 (outw p q) (outw q p), .side q p, .round p 0 (outw q p) (outw p q)]
  | .bow c p q => [.round c (isq (far c p).toNat) (low (dif p c)) (low (dif q c)), .round q 0 (low (dif q c)) (outw q p), .side q p, .round p 0 (outw q p) (low (dif p c))]
theorem sm_of_le {n : Nat} {i : Int} (h : i.natAbs ≤ 1000) (hn : 10 ≤ n) : sm n i := (show sm 10 i by unfold sm; omega).mono hn
theorem common2_spec {d : P2} {n : Nat} {S : Sto} {Q : DK} {E : EK} (h1 : sm n d.1) (h2 : sm n d.2) (k : Q (.int (Int.gcd d.1 d.2)) S) : m_common [.int d.1, .int d.2] S Q E := common_spec h1 h2 k
theorem gcd_pos' {d : P2} (h : d ≠ (0, 0)) : (0 : Int) < Int.gcd d.1 d.2 := by
  have : Int.gcd d.1 d.2 ≠ 0 := by
    intro z
    obtain ⟨a, b⟩ := Int.gcd_eq_zero_iff.mp z
    exact h (Prod.ext a b)
  omega
theorem lowest_spec {d : P2} {n : Nat} {S : Sto} {Q : DK} {E : EK} (h : d ≠ (0, 0)) (h1 : sm n d.1) (h2 : sm n d.2) (hn : n ≤ 4000) (k : Q (pt (low d)) S) : m_lowest [pt d] S Q E := by
  refine e_lowest ?_
  unfold t_lowest
  walk_at "bl"
  refine common2_spec h1 h2 ?_
  walk_at "bl"
  have g := gcd_pos' h
  have gs : sm n (Int.gcd d.1 d.2) := by
    rcases Int.lt_trichotomy d.1 0 with z | z | z
    · have := Int.gcd_le_natAbs_left (a := d.1) (b := d.2) (by omega); unfold sm at *; omega
    · have : d.2 ≠ 0 := fun z2 => h (Prod.ext z z2)
      have := Int.gcd_le_natAbs_right (a := d.1) (b := d.2) (by omega); unfold sm at *; omega
    · have := Int.gcd_le_natAbs_left (a := d.1) (b := d.2) (by omega); unfold sm at *; omega
  have hd : CDiv' (Int.gcd d.1 d.2) := gs.cdiv (by omega) (by omega)
  refine Go.div hd ?_
  walk_at "bl"
  refine Go.div hd ?_
  walk_at "bl"
  rw [Int.fdiv_eq_ediv_of_nonneg _ (by omega), Int.fdiv_eq_ediv_of_nonneg _ (by omega)]
  exact k
theorem step_spec {a b : P2} {S : Sto} {Q : DK} {E : EK} (k : Q (pt (dif a b)) S) : m_step_from [pt a, pt b] S Q E := by
  refine e_step_from ?_
  unfold t_step_from
  walk_at "bl"
  exact k
theorem sm_dif {a b : P2} (ha : Bd a) (hb : Bd b) : sm 12 (dif a b).1 ∧ sm 12 (dif a b).2 := by
  obtain ⟨a1, a2⟩ := ha
  obtain ⟨b1, b2⟩ := hb
  unfold dif sm
  exact ⟨by show (a.1 - b.1).natAbs < _; omega, by show (a.2 - b.2).natAbs < _; omega⟩
theorem dif_ne {a b : P2} (h : a ≠ b) : dif a b ≠ (0, 0) := fun z => h (by
  unfold dif at z
  have h1 := congrArg Prod.fst z
  have h2 := congrArg Prod.snd z
  dsimp only at h1 h2
  exact Prod.ext (by omega) (by omega))
theorem outward_spec {a b : P2} {S : Sto} {Q : DK} {E : EK} (h : a ≠ b) (ha : Bd a) (hb : Bd b) (k : Q (pt (outw a b)) S) : m_outward [pt a, pt b] S Q E := by
  refine e_outward ?_
  unfold t_outward
  walk_at "bl"
  refine step_spec ?_
  walk_at "bl"
  obtain ⟨s1, s2⟩ := sm_dif hb ha
  refine lowest_spec (d := ((dif b a).2, 0 - (dif b a).1)) (fun z => dif_ne (Ne.symm h) (Prod.ext ?_ (congrArg Prod.fst z))) s2 (by unfold sm at *; show (0 - (dif b a).1).natAbs < _; omega) (by decide : 12 ≤ 4000) ?_
  · have := congrArg Prod.snd z
    dsimp only at this
    show (dif b a).1 = 0
    omega
  · exact k
theorem far_eq (a b : P2) : far a b = (a.1 - b.1) * (a.1 - b.1) + (a.2 - b.2) * (a.2 - b.2) := rfl
theorem sm_far {a b : P2} (ha : Bd a) (hb : Bd b) : sm 25 (far a b) := by
  obtain ⟨s1, s2⟩ := sm_dif ha hb
  exact ((s1.mul s1).add (s2.mul s2)).mono (by decide)
theorem far_nonneg (a b : P2) : 0 ≤ far a b := by
  have h : ∀ x : Int, 0 ≤ x * x := fun x => by
    rcases Int.le_total 0 x with z | z
    · exact Int.mul_nonneg z z
    · exact Int.mul_nonneg_of_nonpos_of_nonpos z z
  rw [far_eq]
  exact Int.add_nonneg (h _) (h _)
theorem sq0 {x : Int} (h : x * x = 0) : x = 0 := by
  rcases Int.mul_eq_zero.mp h with z | z <;> exact z
theorem far_zero {a b : P2} (h : far a b = 0) : a = b := by
  rw [far_eq] at h
  have h1 : ∀ x : Int, 0 ≤ x * x := fun x => by
    rcases Int.le_total 0 x with z | z
    · exact Int.mul_nonneg z z
    · exact Int.mul_nonneg_of_nonpos_of_nonpos z z
  have a1 := h1 (a.1 - b.1)
  have a2 := h1 (a.2 - b.2)
  have b1 := sq0 (x := a.1 - b.1) (by omega)
  have b2 := sq0 (x := a.2 - b.2) (by omega)
  exact Prod.ext (by omega) (by omega)
theorem far_self (a : P2) : far a a = 0 := by
  rw [far_eq]
  simp
theorem BowOk.np {c p q : P2} (h : BowOk c p q) : p ≠ c ∧ q ≠ c := by
  have e := h.eq
  refine ⟨fun z => ?_, fun z => ?_⟩
  · rw [z, far_self] at e
    exact h.ne (z.trans (far_zero e.symm))
  · rw [z, far_self] at e
    exact h.ne ((far_zero e).symm.trans z.symm)
theorem far_square_spec {a b : P2} {S : Sto} {Q : DK} {E : EK} (ha : Bd a) (hb : Bd b) (k : Q (.int (far a b)) S) : m_far_square [pt a, pt b] S Q E := by
  refine e_far_square ?_
  unfold t_far_square
  obtain ⟨s1, s2⟩ := sm_dif ha hb
  walk_at "bl"
  refine Go.pow2 (n := 12) s1 (by decide) ?_
  walk_at "bl"
  refine Go.pow2 (n := 12) s2 (by decide) ?_
  walk_at "bl"
  exact k
theorem whole_pos {S : Sto} {Q : DK} {E : EK} {n : Int} (hn : 0 ≤ n) (hs : sm 25 n) (k : Q (.int (isq n.toNat)) S) : m_whole_root [.int n] S Q E := whole_root_spec hn hs (by decide) k
def fcsD (t : Th) : D := .tup ((facesL t).map fcD)
theorem faces_spec {t : Th} {S : Sto} {Q : DK} {E : EK} (h : GoodTh t) (k : Q (fcsD t) S) : m_faces [thD t] S Q E := by
  refine e_faces ?_
  unfold t_faces
  cases t with
  | spot p =>
    unfold thD
    walk_at "bl"
    exact k
  | cord p q =>
    obtain ⟨hp, hq, hne, hw⟩ := h
    unfold thD
    walk_at "bl"
    refine outward_spec (Ne.symm hne) hq hp ?_
    walk_at "bl"
    refine outward_spec hne hp hq ?_
    walk_at "bl"
    exact k
  | bow c p q =>
    obtain ⟨hc, hp, hq, hb⟩ := h
    obtain ⟨np, nq⟩ := hb.np
    unfold thD
    walk_at "bl"
    refine outward_spec (Ne.symm hb.ne) hq hp ?_
    walk_at "bl"
    refine step_spec ?_
    walk_at "bl"
    obtain ⟨s1, s2⟩ := sm_dif hp hc
    refine lowest_spec (dif_ne np) s1 s2 (by decide) ?_
    walk_at "bl"
    refine step_spec ?_
    walk_at "bl"
    obtain ⟨s1, s2⟩ := sm_dif hq hc
    refine lowest_spec (dif_ne nq) s1 s2 (by decide) ?_
    walk_at "bl"
    refine far_square_spec hc hp ?_
    walk_at "bl"
    refine whole_pos (far_nonneg c p) (sm_far hc hp) ?_
    walk_at "bl"
    exact k
/-! the law's faces -/
end Lb

namespace Lb
open PySem PySem.Spec PyProof.Rows L2 Bl
/-! ### the drawn things -/
theorem point_spec {a : Addr} {most : Int} {S : Sto} {Q : DK} {E : EK} (hb : Bg S a) (h0 : 0 ≤ most) (h1 : most ≤ 1000) (k : ∀ p S', p.1.natAbs ≤ most.natAbs → p.2.natAbs ≤ most.natAbs → Bg S' a → Fr S S' a → Q (pt p) S') : m_l_point [.ref a, .int most] S Q E := by
  refine e_l_point ?_
  unfold t_l_point
  have hm : sm 11 most := by unfold sm; omega
  have h2 : sm 9000 (2 * most + 1) := (show sm 12 (2 * most + 1) by unfold sm; omega).mono (by decide)
  walk_at "bl"
  refine Go.mul ((sm.of (n := 2) (by decide)).cmul hm (by decide)) ?_
  walk_at "bl"
  refine take_spec hb (by omega) h2 fun x S1 x0 x1 b1 f1 => ?_
  walk_at "bl"
  refine Go.mul ((sm.of (n := 2) (by decide)).cmul hm (by decide)) ?_
  walk_at "bl"
  refine take_spec b1 (by omega) h2 fun y S2 y0 y1 b2 f2 => ?_
  walk_at "bl"
  exact k (x - most, y - most) S2 (by show (x - most).natAbs ≤ _; omega) (by show (y - most).natAbs ≤ _; omega) b2 (f1.trans f2)
def rot : Nat → P2 → P2
  | 0, p => p
  | n + 1, p => (0 - (rot n p).2, (rot n p).1)
theorem turned_spec {p : P2} {n : Nat} {S : Sto} {Q : DK} {E : EK} (hn : n < 1000) (k : Q (pt (rot n p)) S) : m_l_turned [pt p, .int n] S Q E := by
  refine e_l_turned ?_
  unfold t_l_turned
  walk_at "bl"
  refine Go.r1' rfl (by omega) ?_
  refine forD_rng (fun j e s => ∃ o, e = [some (pt p), some (.int n), some (.int (rot j p).1), some (.int (rot j p).2), o] ∧ s = S) ⟨_, rfl, rfl⟩ ?_ ?_
  · rintro j e s hj ⟨o, rfl, rfl⟩
    refine ⟨_, rfl, fun N' hnx _ _ _ _ => ?_⟩
    show sPar _ _ [some (pt p), some (.int n), some (.int (rot j p).1), some (.int (rot j p).2), some (.int (0 + j))] _ _
    walk_at "bl"
    exact hnx _ _ ⟨_, rfl, rfl⟩
  · rintro e s ⟨o, rfl, rfl⟩
    walk_at "bl"
    exact k
def plus2 (a b : P2) : P2 := (a.1 + b.1, a.2 + b.2)
theorem added_spec {a b : P2} {S : Sto} {Q : DK} {E : EK} (k : Q (pt (plus2 a b)) S) : m_l_added [pt a, pt b] S Q E := by
  refine e_l_added ?_
  unfold t_l_added
  walk_at "bl"
  exact k
theorem rot_dot (u v : P2) : ∀ n : Nat, dot (rot n u) (rot n v) = dot u v
  | 0 => rfl
  | n + 1 => by
    rw [← rot_dot u v n]
    unfold dot
    show (0 - (rot n u).2) * (0 - (rot n v).2) + (rot n u).1 * (rot n v).1 = _
    grind
theorem rot_crs (u v : P2) : ∀ n : Nat, crs (rot n u) (rot n v) = crs u v
  | 0 => rfl
  | n + 1 => by
    rw [← rot_crs u v n]
    unfold crs
    show (0 - (rot n u).2) * (rot n v).1 - (rot n u).1 * (0 - (rot n v).2) = _
    grind
theorem far_plus (b u v : P2) : far (plus2 b u) (plus2 b v) = dot u u - 2 * dot u v + dot v v := by
  unfold far dif dot plus2
  dsimp only
  grind
theorem far_plus0 (b u : P2) : far b (plus2 b u) = dot u u := by
  unfold far dif dot plus2
  dsimp only
  grind
theorem dif_plus0 (b u : P2) : dif (plus2 b u) b = u := by
  unfold dif plus2
  dsimp only
  exact Prod.ext (by omega) (by omega)
theorem BowOk.mk' {b u v : P2} {n : Nat} {r d : Int} (h1 : dot u u = r * r) (h2 : dot v v = r * r) (hr : 0 ≤ r) (h3 : dot u u - 2 * dot u v + dot v v = d * d) (hd : 0 < d) (h4 : 0 ≤ crs u v) : BowOk b (plus2 b (rot n u)) (plus2 b (rot n v)) := by
  have e : far (plus2 b (rot n u)) (plus2 b (rot n v)) = d * d := by rw [far_plus, rot_dot, rot_dot, rot_dot, h3]
  refine ⟨fun z => ?_, ?_, ⟨r, hr, ?_⟩, ⟨d, by omega, e⟩, ?_⟩
  · rw [z, far_self] at e
    have := Int.mul_pos hd hd
    omega
  · rw [far_plus0, far_plus0, rot_dot, rot_dot, h1, h2]
  · rw [far_plus0, rot_dot, h1]
  · rw [dif_plus0, dif_plus0, rot_crs]
    exact h4
theorem rot_bd {u : P2} {m : Nat} (h1 : u.1.natAbs ≤ m) (h2 : u.2.natAbs ≤ m) : ∀ n : Nat, (rot n u).1.natAbs ≤ m ∧ (rot n u).2.natAbs ≤ m
  | 0 => ⟨h1, h2⟩
  | n + 1 => by
    obtain ⟨a, b⟩ := rot_bd h1 h2 n
    exact ⟨by show (0 - (rot n u).2).natAbs ≤ m; omega, a⟩
def PIn (m : Nat) (p : P2) : Prop := p.1.natAbs ≤ m ∧ p.2.natAbs ≤ m
def TIn (m : Nat) : Th → Prop
  | .spot p => PIn m p
  | .cord p q => PIn m p ∧ PIn m q
  | .bow c p q => PIn m c ∧ PIn m p ∧ PIn m q
theorem PIn.bd {m : Nat} {p : P2} (h : PIn m p) (hm : m ≤ 1000) : Bd p := ⟨Nat.le_trans h.1 hm, Nat.le_trans h.2 hm⟩
theorem plus_in {b u : P2} {m n : Nat} (h : PIn m b) (h' : PIn n u) : PIn (m + n) (plus2 b u) := by
  unfold PIn plus2 at *
  dsimp only
  omega
/-- how a thing is drawn -/
structure Shape (x y r : Int) : Prop where
  e : x * x + y * y = r * r
  x0 : 0 < x
  x1 : x ≤ 15
  y0 : 0 ≤ y
  y1 : y ≤ 15
  r0 : 0 < r
theorem shapes {d : Int} (h0 : 0 ≤ d) (h1 : d < 8) : ∃ x y r : Int, Shape x y r ∧ atI [pt (1, 0), pt (3, 4), pt (4, 3), pt (5, 12), pt (12, 5), pt (8, 15), pt (2, 0), pt (6, 8)] d = some (pt (x, y)) := by
  rcases (by omega : d = (0 : Nat) ∨ d = (1 : Nat) ∨ d = (2 : Nat) ∨ d = (3 : Nat) ∨ d = (4 : Nat) ∨ d = (5 : Nat) ∨ d = (6 : Nat) ∨ d = (7 : Nat)) with h | h | h | h | h | h | h | h <;> subst h
  · exact ⟨1, 0, 1, ⟨by decide, by decide, by decide, by decide, by decide, by decide⟩, atI_nat rfl⟩
  · exact ⟨3, 4, 5, ⟨by decide, by decide, by decide, by decide, by decide, by decide⟩, atI_nat rfl⟩
  · exact ⟨4, 3, 5, ⟨by decide, by decide, by decide, by decide, by decide, by decide⟩, atI_nat rfl⟩
  · exact ⟨5, 12, 13, ⟨by decide, by decide, by decide, by decide, by decide, by decide⟩, atI_nat rfl⟩
  · exact ⟨12, 5, 13, ⟨by decide, by decide, by decide, by decide, by decide, by decide⟩, atI_nat rfl⟩
  · exact ⟨8, 15, 17, ⟨by decide, by decide, by decide, by decide, by decide, by decide⟩, atI_nat rfl⟩
  · exact ⟨2, 0, 2, ⟨by decide, by decide, by decide, by decide, by decide, by decide⟩, atI_nat rfl⟩
  · exact ⟨6, 8, 10, ⟨by decide, by decide, by decide, by decide, by decide, by decide⟩, atI_nat rfl⟩
theorem onethree {d : Int} (h0 : 0 ≤ d) (h1 : d < 2) : ∃ m : Int, 0 < m ∧ m ≤ 3 ∧ atI [D.int 1, .int 3] d = some (.int m) := by
  rcases (by omega : d = 0 ∨ d = 1) with h | h <;> subst h
  · exact ⟨1, by decide, by decide, atI_0⟩
  · exact ⟨3, by decide, by decide, atI_1⟩
theorem thing_spec {a : Addr} {most : Int} {S : Sto} {Q : DK} {E : EK} (hb : Bg S a) (hm0 : 0 ≤ most) (hm1 : most ≤ 400) (k : ∀ t S', GoodTh t → TIn (most.toNat + 75) t → Bg S' a → Fr S S' a → Q (thD t) S') : m_l_thing [.ref a, .int most] S Q E := by
  refine e_l_thing ?_
  unfold t_l_thing
  walk_at "bl"
  refine take_spec hb (by omega) (sm_k (by decide)) fun kind S1 k0 k1 b1 f1 => ?_
  walk_at "bl"
  refine point_spec b1 hm0 (by omega) fun base S2 p1 p2 b2 f2 => ?_
  have pb : PIn most.toNat base := ⟨by omega, by omega⟩
  have pb' : PIn (most.toNat + 75) base := ⟨by omega, by omega⟩
  have hbase : Bd base := pb.bd (by omega)
  have f12 := f1.trans f2
  walk_at "bl"
  refine Go.ifD (fun hk => ?_) fun hk => ?_
  · walk_at "bl"
    exact k (.spot base) S2 hbase pb' b2 f12
  walk_at "bl"
  refine take_spec b2 (by omega) (sm_k (by decide)) fun d S3 d0 d1 b3 f3 => ?_
  obtain ⟨x, y, r, sh, ed⟩ := shapes d0 d1
  refine Go.ixL ed ?_
  walk_at "bl"
  refine take_spec b3 (by omega) (sm_k (by decide)) fun often S4 o0 o1 b4 f4 => ?_
  walk_at "bl"
  refine take_spec b4 (by omega) (sm_k (by decide)) fun u S5 u0 u1 b5 f5 => ?_
  obtain ⟨m, m0, m1, em⟩ := onethree u0 u1
  refine Go.ixL em ?_
  walk_at "bl"
  refine take_spec b5 m0 ((show sm 8 m by unfold sm; omega).mono (by decide)) fun sz S6 s0 s1 b6 f6 => ?_
  walk_at "bl"
  have f16 := (((f12.trans f3).trans f4).trans f5).trans f6
  have hx := sh.x0
  have hx1 := sh.x1
  have hy := sh.y0
  have hy1 := sh.y1
  have hr := sh.r0
  have he := sh.e
  generalize hs : 1 + sz = s at *
  have hs0 : 0 < s := by omega
  have hs3 : s ≤ 3 := by omega
  have ss : sm 4 s := by unfold sm; omega
  have sx : sm 5 x := by unfold sm; omega
  have sy : sm 5 y := by unfold sm; omega
  have ex : x * s ≤ 15 * 3 ∧ 0 < x * s := ⟨Int.mul_le_mul hx1 hs3 (by omega) (by omega), Int.mul_pos hx hs0⟩
  have ey : y * s ≤ 15 * 3 ∧ 0 ≤ y * s := ⟨Int.mul_le_mul hy1 hs3 (by omega) (by omega), Int.mul_nonneg hy (by omega)⟩
  have er : 0 < r * s := Int.mul_pos hr hs0
  obtain ⟨n, rfl⟩ : ∃ n : Nat, often = n := ⟨often.toNat, by omega⟩
  have hu : dot (x * s, y * s) (x * s, y * s) = (r * s) * (r * s) := by
    unfold dot
    dsimp only
    grind
  refine Go.mul (sx.cmul ss (by decide)) ?_
  walk_at "bl"
  refine Go.mul (sy.cmul ss (by decide)) ?_
  walk_at "bl"
  refine turned_spec (p := (x * s, y * s)) (by omega) ?_
  walk_at "bl"
  refine Go.ifD (fun hk2 => ?_) fun hk2 => ?_
  · walk_at "bl"
    refine added_spec ?_
    walk_at "bl"
    have hb2 := plus_in pb (rot_bd (u := (x * s, y * s)) (m := 75) (by show (x * s).natAbs ≤ _; omega) (by show (y * s).natAbs ≤ _; omega) n)
    refine k (.cord base (plus2 base (rot n (x * s, y * s)))) S6 ⟨hbase, hb2.bd (by omega), fun z => ?_, ⟨r * s, by omega, by rw [far_plus0, rot_dot, hu]⟩⟩ ⟨pb', hb2⟩ b6 f16
    have e := far_plus0 base (rot n (x * s, y * s))
    rw [rot_dot, hu, ← z, far_self] at e
    have := Int.mul_pos er er
    omega
  walk_at "bl"
  refine Go.mul (sx.cmul ss (by decide)) ?_
  walk_at "bl"
  refine Go.mul (sy.cmul ss (by decide)) ?_
  walk_at "bl"
  refine Go.mul (sx.cmul ss (by decide)) ?_
  walk_at "bl"
  refine Go.mul (sy.cmul ss (by decide)) ?_
  walk_at "bl"
  refine take_spec b6 (by omega) (sm_k (by decide)) fun way S7 w0 w1 b7 f7 => ?_
  have f17 := f16.trans f7
  -- both ends, by what was drawn
  have fin : ∀ (u v : P2) (R d : Int), dot u u = R * R → dot v v = R * R → 0 ≤ R → dot u u - 2 * dot u v + dot v v = d * d → 0 < d → 0 ≤ crs u v → u.1.natAbs ≤ 75 → u.2.natAbs ≤ 75 → v.1.natAbs ≤ 75 → v.2.natAbs ≤ 75 → GoodTh (.bow base (plus2 base (rot n u)) (plus2 base (rot n v))) ∧ TIn (most.toNat + 75) (.bow base (plus2 base (rot n u)) (plus2 base (rot n v))) :=
    fun u v R d h1 h2 h3 h4 h5 h6 c1 c2 c3 c4 => ⟨⟨hbase, (plus_in pb (rot_bd c1 c2 n)).bd (by omega), (plus_in pb (rot_bd c3 c4 n)).bd (by omega), .mk' h1 h2 h3 h4 h5 h6⟩, pb', plus_in pb (rot_bd c1 c2 n), plus_in pb (rot_bd c3 c4 n)⟩
  have half := fin (x * s, y * s) (0 - x * s, 0 - y * s) (r * s) (2 * (r * s)) hu (by unfold dot; dsimp only; grind) (by omega) (by unfold dot; dsimp only; grind) (by omega) (by unfold crs; dsimp only; grind) (by show (x * s).natAbs ≤ 75; omega) (by show (y * s).natAbs ≤ 75; omega) (by show (0 - x * s).natAbs ≤ 75; omega) (by show (0 - y * s).natAbs ≤ 75; omega)
  walk_at "bl"
  refine Go.ifD (fun hw => ?_) fun hw => ?_
  · walk_at "bl"
    refine turned_spec (p := (x * s, y * s)) (by omega) ?_
    walk_at "bl"
    refine added_spec ?_
    walk_at "bl"
    refine turned_spec (p := (0 - x * s, 0 - y * s)) (by omega) ?_
    walk_at "bl"
    refine added_spec ?_
    walk_at "bl"
    exact k _ S7 (half).1 (half).2 b7 f17
  walk_at "bl"
  refine Go.ifD (fun hy0 => ?_) fun hy0 => ?_
  · walk_at "bl"
    refine turned_spec (p := (x * s, y * s)) (by omega) ?_
    walk_at "bl"
    refine added_spec ?_
    walk_at "bl"
    refine turned_spec (p := (0 - x * s, 0 - y * s)) (by omega) ?_
    walk_at "bl"
    refine added_spec ?_
    walk_at "bl"
    exact k _ S7 (half).1 (half).2 b7 f17
  walk_at "bl"
  refine Go.ifD (fun hw2 => ?_) fun hw2 => ?_
  · walk_at "bl"
    refine Go.mul ((sm.of (n := 5) (by decide)).cmul ss (by decide)) ?_
    walk_at "bl"
    refine Go.mul ((sm.of (n := 5) (by decide)).cmul ss (by decide)) ?_
    walk_at "bl"
    refine Go.mul ((sm.of (n := 5) (by decide)).cmul ss (by decide)) ?_
    walk_at "bl"
    refine turned_spec (p := (25 * s, 0)) (by omega) ?_
    walk_at "bl"
    refine added_spec ?_
    walk_at "bl"
    refine turned_spec (p := (7 * s, 24 * s)) (by omega) ?_
    walk_at "bl"
    refine added_spec ?_
    walk_at "bl"
    exact k _ S7 (fin (25 * s, 0) (7 * s, 24 * s) (25 * s) (30 * s) (by unfold dot; dsimp only; grind) (by unfold dot; dsimp only; grind) (by omega) (by unfold dot; dsimp only; grind) (by omega) (by unfold crs; dsimp only; have := Int.mul_nonneg (show 0 ≤ s by omega) (show 0 ≤ s by omega); grind) (by show (25 * s).natAbs ≤ 75; omega) (by show (0 : Int).natAbs ≤ 75; omega) (by show (7 * s).natAbs ≤ 75; omega) (by show (24 * s).natAbs ≤ 75; omega)).1 (fin (25 * s, 0) (7 * s, 24 * s) (25 * s) (30 * s) (by unfold dot; dsimp only; grind) (by unfold dot; dsimp only; grind) (by omega) (by unfold dot; dsimp only; grind) (by omega) (by unfold crs; dsimp only; have := Int.mul_nonneg (show 0 ≤ s by omega) (show 0 ≤ s by omega); grind) (by show (25 * s).natAbs ≤ 75; omega) (by show (0 : Int).natAbs ≤ 75; omega) (by show (7 * s).natAbs ≤ 75; omega) (by show (24 * s).natAbs ≤ 75; omega)).2 b7 f17
  · walk_at "bl"
    refine turned_spec (p := (x * s, y * s)) (by omega) ?_
    walk_at "bl"
    refine added_spec ?_
    walk_at "bl"
    refine turned_spec (p := (0 - x * s, y * s)) (by omega) ?_
    walk_at "bl"
    refine added_spec ?_
    walk_at "bl"
    exact k _ S7 (fin (x * s, y * s) (0 - x * s, y * s) (r * s) (2 * (x * s)) hu (by unfold dot; dsimp only; grind) (by omega) (by unfold dot; dsimp only; grind) (by omega) (by unfold crs; dsimp only; have := Int.mul_nonneg (show 0 ≤ x * s by omega) ey.2; grind) (by show (x * s).natAbs ≤ 75; omega) (by show (y * s).natAbs ≤ 75; omega) (by show (0 - x * s).natAbs ≤ 75; omega) (by show (y * s).natAbs ≤ 75; omega)).1 (fin (x * s, y * s) (0 - x * s, y * s) (r * s) (2 * (x * s)) hu (by unfold dot; dsimp only; grind) (by omega) (by unfold dot; dsimp only; grind) (by omega) (by unfold crs; dsimp only; have := Int.mul_nonneg (show 0 ≤ x * s by omega) ey.2; grind) (by show (x * s).natAbs ≤ 75; omega) (by show (y * s).natAbs ≤ 75; omega) (by show (0 - x * s).natAbs ≤ 75; omega) (by show (y * s).natAbs ≤ 75; omega)).2 b7 f17
end Lb

namespace Lb
open PySem PySem.Spec PyProof.Rows L2 Bl
def t_cross_of : TSd := sRet (dTwo (dTwo (dTwo (vr 0) (cn (.int 0)) fIx) (dTwo (vr 1) (cn (.int 1)) fIx) fMul) (dTwo (dTwo (vr 0) (cn (.int 1)) fIx) (dTwo (vr 1) (cn (.int 0)) fIx) fMul) fSub)
def m_cross_of : TFd := fnD 2 2 t_cross_of
theorem e_cross_of {a0 a1 : D} {S : Sto} {Q : DK} {E : EK} (k : t_cross_of [some a0, some a1] S ⟨fun _ S1 => Q .non S1, Q, fun _ _ => False, fun _ _ => False, fun x _ S1 => E x S1⟩) : m_cross_of [a0, a1] S Q E := ⟨rfl, k⟩
def t_dot_of : TSd := sRet (dTwo (dTwo (dTwo (vr 0) (cn (.int 0)) fIx) (dTwo (vr 1) (cn (.int 0)) fIx) fMul) (dTwo (dTwo (vr 0) (cn (.int 1)) fIx) (dTwo (vr 1) (cn (.int 1)) fIx) fMul) fAdd)
def m_dot_of : TFd := fnD 2 2 t_dot_of
theorem e_dot_of {a0 a1 : D} {S : Sto} {Q : DK} {E : EK} (k : t_dot_of [some a0, some a1] S ⟨fun _ S1 => Q .non S1, Q, fun _ _ => False, fun _ _ => False, fun x _ S1 => E x S1⟩) : m_dot_of [a0, a1] S Q E := ⟨rfl, k⟩
def t_length_of : TSd := sRet (dCall m_whole_root 1 0 (fun ds _ => ds) (aCons (dCall m_dot_of 2 0 (fun ds _ => ds) (aCons (vr 0) (aCons (vr 0) (aNil))) aNil) (aNil)) aNil)
def m_length_of : TFd := fnD 1 1 t_length_of
theorem e_length_of {a0 : D} {S : Sto} {Q : DK} {E : EK} (k : t_length_of [some a0] S ⟨fun _ S1 => Q .non S1, Q, fun _ _ => False, fun _ _ => False, fun x _ S1 => E x S1⟩) : m_length_of [a0] S Q E := ⟨rfl, k⟩
end Lb

namespace Lb
open PySem PySem.Spec PyProof.Rows L2 Bl
/-! ### directions, quarters, how long faces are -/
theorem dot_spec {a b : P2} {n : Nat} {S : Sto} {Q : DK} {E : EK} (a1 : sm n a.1) (a2 : sm n a.2) (b1 : sm n b.1) (b2 : sm n b.2) (hn : n ≤ 4000) (k : Q (.int (dot a b)) S) : m_dot_of [pt a, pt b] S Q E := by
  refine e_dot_of ?_
  unfold t_dot_of
  walk_at "bl"
  refine Go.mul (a1.cmul b1 (by omega)) ?_
  walk_at "bl"
  refine Go.mul (a2.cmul b2 (by omega)) ?_
  walk_at "bl"
  exact k
theorem cross_spec {a b : P2} {n : Nat} {S : Sto} {Q : DK} {E : EK} (a1 : sm n a.1) (a2 : sm n a.2) (b1 : sm n b.1) (b2 : sm n b.2) (hn : n ≤ 4000) (k : Q (.int (crs a b)) S) : m_cross_of [pt a, pt b] S Q E := by
  refine e_cross_of ?_
  unfold t_cross_of
  walk_at "bl"
  refine Go.mul (a1.cmul b2 (by omega)) ?_
  walk_at "bl"
  refine Go.mul (a2.cmul b1 (by omega)) ?_
  walk_at "bl"
  exact k
/-- a direction of a whole length -/
structure DirOk (n : Nat) (v : P2) : Prop where
  ne : v ≠ (0, 0)
  w : Whole (dot v v)
  s1 : sm n v.1
  s2 : sm n v.2
theorem rot_ne {v : P2} (h : v ≠ (0, 0)) : ∀ n : Nat, rot n v ≠ (0, 0)
  | 0 => h
  | n + 1 => fun z => rot_ne h n (by
    have h1 : 0 - (rot n v).2 = 0 := congrArg Prod.fst z
    have h2 : (rot n v).1 = 0 := congrArg Prod.snd z
    exact Prod.ext h2 (by show (rot n v).2 = 0; omega))
theorem rot_sm {v : P2} {m : Nat} (h1 : sm m v.1) (h2 : sm m v.2) : ∀ n : Nat, sm m (rot n v).1 ∧ sm m (rot n v).2
  | 0 => ⟨h1, h2⟩
  | n + 1 => by
    obtain ⟨a, b⟩ := rot_sm h1 h2 n
    exact ⟨by show sm m (0 - (rot n v).2); unfold sm at *; omega, a⟩
theorem DirOk.rot {m : Nat} {v : P2} (h : DirOk m v) (n : Nat) : DirOk m (rot n v) := ⟨rot_ne h.ne n, by rw [rot_dot]; exact h.w, (rot_sm h.s1 h.s2 n).1, (rot_sm h.s1 h.s2 n).2⟩
theorem dot_nonneg (v : P2) : 0 ≤ dot v v := by
  have := far_nonneg (0, 0) v
  have e : far (0, 0) v = dot v v := by
    unfold far dif dot
    dsimp only
    grind
  omega
theorem dot_pos {v : P2} (h : v ≠ (0, 0)) : 0 < dot v v := by
  have e : far (0, 0) v = dot v v := by
    unfold far dif dot
    dsimp only
    grind
  have h1 := far_nonneg (0, 0) v
  have : far (0, 0) v ≠ 0 := fun z => h (far_zero z).symm
  omega
theorem Whole.isq {n : Int} (h : Whole n) : (isq n.toNat : Int) * isq n.toNat = n := by
  obtain ⟨r, r0, rfl⟩ := h
  obtain ⟨m, rfl⟩ := Int.eq_ofNat_of_zero_le r0
  have e : ((m : Int) * m).toNat = m * m := by
    have : ((m : Int) * m) = ((m * m : Nat) : Int) := by push_cast; rfl
    rw [this, Int.toNat_natCast]
  rw [e, isq_sq]
def lenq (v : P2) : Int := isq (dot v v).toNat
theorem lenq_sq {m : Nat} {v : P2} (h : DirOk m v) : lenq v * lenq v = dot v v := h.w.isq
theorem lenq_pos {v : P2} (h : v ≠ (0, 0)) : 0 < lenq v := by
  have h1 := dot_pos h
  have := isq_pos (n := (dot v v).toNat) (by omega)
  unfold lenq
  omega
theorem sm_dot {a b : P2} {n : Nat} (a1 : sm n a.1) (a2 : sm n a.2) (b1 : sm n b.1) (b2 : sm n b.2) : sm (n + n + 1) (dot a b) := (a1.mul b1).add (a2.mul b2)
theorem lenq_sm {n : Nat} {v : P2} (s1 : sm n v.1) (s2 : sm n v.2) : sm (n + n + 1) (lenq v) := isq_sm (dot_nonneg v) (sm_dot s1 s2 s1 s2)
theorem length_spec {v : P2} {n : Nat} {S : Sto} {Q : DK} {E : EK} (s1 : sm n v.1) (s2 : sm n v.2) (hn : n ≤ 1000) (k : Q (.int (lenq v)) S) : m_length_of [pt v] S Q E := by
  refine e_length_of ?_
  unfold t_length_of
  walk_at "bl"
  refine dot_spec s1 s2 s1 s2 (by omega) ?_
  walk_at "bl"
  exact whole_root_spec (dot_nonneg v) (sm_dot s1 s2 s1 s2) (by omega) k
/-- whether less than a quarter lies between -/
def cnd (h l : P2) : Prop := 0 ≤ crs h l ∧ 0 < dot h l
instance (h l : P2) : Decidable (cnd h l) := by unfold cnd; infer_instance
theorem pt_eq (a b : P2) : eqD (pt a) (pt b) = decide (a = b) := by
  show (a.1 == b.1 && (a.2 == b.2 && true)) = _
  rw [Bool.eq_iff_iff]
  simp only [Bool.and_eq_true, beq_iff_eq, and_true, decide_eq_true_eq]
  exact ⟨fun h => Prod.ext h.1 h.2, fun h => by rw [h]; exact ⟨rfl, rfl⟩⟩
theorem ok_pt (a : P2) : okD (pt a) := ⟨rfl, rfl⟩
theorem eq_pt {a b : P2} {S : Sto} {Q : DK} (k : Q (.bl (decide (a = b))) S) : fEq (pt a) (pt b) S Q := ⟨ok_pt _, ok_pt _, by rw [pt_eq]; exact k⟩
def FcGood (n : Nat) : Fc → Prop
  | .side a b => a ≠ b ∧ Bd a ∧ Bd b ∧ Whole (far a b)
  | .round c r f l => DirOk n f ∧ DirOk n l ∧ Bd c ∧ 0 ≤ r ∧ sm 25 r
/-- a loop over made items -/
theorem forD_map {α : Type} {f : α → D} {g : Tg} {b : TSd} {N : Nd} (P : List α → Ev → Sto → Prop) (turn : ∀ x xs env S, P (x :: xs) env S → ∃ e1, asgT S g (f x) env = some e1 ∧ ∀ N' : Nd, (∀ e s, P xs e s → N'.nx e s) → (∀ e s, P xs e s → N'.ct e s) → N'.rt = N.rt → N'.bk = N.nx → N'.ex = N.ex → b e1 S N') (fin : ∀ env S, P [] env S → N.nx env S) : ∀ (xs : List α) {env : Ev} {S : Sto}, P xs env S → forD g b (xs.map f) env S N
  | [], env, S, h => fin env S h
  | x :: xs, env, S, h => by
    obtain ⟨e1, ea, hb⟩ := turn x xs env S h
    rw [List.map_cons]
    unfold forD
    rw [ea]
    exact hb _ (fun e s q => forD_map P turn fin xs q) (fun e s q => forD_map P turn fin xs q) rfl rfl rfl
/-! the faces are good -/
theorem Whole.mul_of {g m : Int} (hg : 0 < g) (hm : 0 ≤ m) (h : Whole (g * g * m)) : Whole m := by
  obtain ⟨r, r0, e⟩ := h
  obtain ⟨G, rfl⟩ := Int.eq_ofNat_of_zero_le (show 0 ≤ g by omega)
  obtain ⟨M, rfl⟩ := Int.eq_ofNat_of_zero_le hm
  obtain ⟨R, rfl⟩ := Int.eq_ofNat_of_zero_le r0
  have e' : G * G * M = R * R := by exact_mod_cast e
  have hd : G ^ 2 ∣ R ^ 2 := ⟨M, by rw [Nat.pow_two, Nat.pow_two, e']⟩
  have hd2 : G ∣ R := (Nat.pow_dvd_pow_iff (by decide)).mp hd
  obtain ⟨T, rfl⟩ := hd2
  refine ⟨T, by omega, ?_⟩
  have hG : 0 < G * G := Nat.mul_pos (by omega) (by omega)
  have : G * G * M = G * G * (T * T) := by
    rw [e']
    grind
  have := Nat.eq_of_mul_eq_mul_left hG this
  rw [this]
  push_cast
  rfl
theorem low_mul {d : P2} (h : d ≠ (0, 0)) : d.1 = (Int.gcd d.1 d.2 : Int) * (low d).1 ∧ d.2 = (Int.gcd d.1 d.2 : Int) * (low d).2 := by
  have g := gcd_pos' h
  have h1 : (Int.gcd d.1 d.2 : Int) ∣ d.1 := Int.gcd_dvd_left ..
  have h2 : (Int.gcd d.1 d.2 : Int) ∣ d.2 := Int.gcd_dvd_right ..
  exact ⟨(Int.mul_ediv_cancel' h1).symm, (Int.mul_ediv_cancel' h2).symm⟩
theorem low_ok {n : Nat} {d : P2} (h : d ≠ (0, 0)) (w : Whole (dot d d)) (h1 : sm n d.1) (h2 : sm n d.2) : DirOk n (low d) := by
  obtain ⟨e1, e2⟩ := low_mul h
  have g := gcd_pos' h
  have ne : low d ≠ (0, 0) := fun z => by
    rw [z] at e1 e2
    exact h (Prod.ext (by rw [e1]; show _ * (0 : Int) = 0; omega) (by rw [e2]; show _ * (0 : Int) = 0; omega))
  have le : ∀ {a b c : Int}, 0 < b → a = b * c → sm n a → sm n c := fun {a b c} hb e hs => by
    unfold sm at *
    rw [e, Int.natAbs_mul] at hs
    have : c.natAbs ≤ b.natAbs * c.natAbs := Nat.le_mul_of_pos_left _ (by omega)
    omega
  refine ⟨ne, Whole.mul_of g (dot_nonneg _) ?_, le g e1 h1, le g e2 h2⟩
  have : dot d d = (Int.gcd d.1 d.2 : Int) * (Int.gcd d.1 d.2 : Int) * dot (low d) (low d) := by
    generalize (Int.gcd d.1 d.2 : Int) = G at *
    unfold dot
    rw [e1, e2]
    generalize low d = L at *
    grind
  rw [← this]
  exact w
theorem dir_of {a b : P2} (h : a ≠ b) (ha : Bd a) (hb : Bd b) (w : Whole (far b a)) : DirOk 12 (low (dif a b)) := by
  obtain ⟨s1, s2⟩ := sm_dif ha hb
  refine low_ok (dif_ne h) ?_ s1 s2
  have e : dot (dif a b) (dif a b) = far b a := by
    unfold far dif dot
    dsimp only
    grind
  rw [e]
  exact w
theorem outw_ok {a b : P2} (h : a ≠ b) (ha : Bd a) (hb : Bd b) (w : Whole (far a b)) : DirOk 12 (outw a b) := by
  obtain ⟨s1, s2⟩ := sm_dif hb ha
  refine low_ok (fun z => dif_ne (Ne.symm h) ?_) ?_ s2 (by unfold sm at *; show (0 - (dif b a).1).natAbs < _; omega)
  · have z1 : (dif b a).2 = 0 := congrArg Prod.fst z
    have z2 : 0 - (dif b a).1 = 0 := congrArg Prod.snd z
    exact Prod.ext (by show (dif b a).1 = 0; omega) z1
  · have e : dot ((dif b a).2, 0 - (dif b a).1) ((dif b a).2, 0 - (dif b a).1) = far a b := by
      unfold far dif dot
      dsimp only
      grind
    rw [e]
    exact w
theorem far_comm (a b : P2) : far a b = far b a := by
  unfold far dif dot
  dsimp only
  grind
theorem faces_good {t : Th} (h : GoodTh t) : ∀ f ∈ facesL t, FcGood 12 f := by
  have one : DirOk 12 (1, 0) := ⟨by decide, ⟨1, by decide, by decide⟩, sm.of (by decide), sm.of (by decide)⟩
  have z25 : sm 25 0 := sm.of (by decide)
  cases t with
  | spot p =>
    intro f hf
    rw [List.mem_singleton.mp hf]
    exact ⟨one, one, h, by decide, z25⟩
  | cord p q =>
    obtain ⟨hp, hq, hne, w⟩ := h
    have w' : Whole (far q p) := by rw [far_comm]; exact w
    have o1 := outw_ok hne hp hq w
    have o2 := outw_ok (Ne.symm hne) hq hp w'
    intro f hf
    simp only [facesL, List.mem_cons, List.not_mem_nil, or_false] at hf
    rcases hf with rfl | rfl | rfl | rfl
    · exact ⟨hne, hp, hq, w⟩
    · exact ⟨o1, o2, hq, by decide, z25⟩
    · exact ⟨Ne.symm hne, hq, hp, w'⟩
    · exact ⟨o2, o1, hp, by decide, z25⟩
  | bow c p q =>
    obtain ⟨hc, hp, hq, hb⟩ := h
    obtain ⟨np, nq⟩ := hb.np
    have w' : Whole (far q p) := by rw [far_comm]; exact hb.wd
    have o2 := outw_ok (Ne.symm hb.ne) hq hp w'
    have d1 := dir_of np hp hc hb.wr
    have d2 := dir_of nq hq hc (by rw [← hb.eq]; exact hb.wr)
    intro f hf
    simp only [facesL, List.mem_cons, List.not_mem_nil, or_false] at hf
    rcases hf with rfl | rfl | rfl | rfl
    · exact ⟨d1, d2, hc, by omega, isq_sm (far_nonneg c p) (sm_far hc hp)⟩
    · exact ⟨d2, o2, hq, by decide, z25⟩
    · exact ⟨Ne.symm hb.ne, hq, hp, w'⟩
    · exact ⟨o2, d1, hp, by decide, z25⟩
end Lb

namespace Lb
open PySem PySem.Spec PyProof.Rows L2 Bl
end Lb

local macro_rules | `(tactic| walk_at "blz") => `(tactic| (with_reducible (first | refine Go.zipS' ?_ | refine Go.zipR' ?_ | refine Go.seqT ?_ | refine Go.seqL ?_ | refine Go.zipST rfl ?_ | refine Go.zipSL rfl ?_ | refine Go.for_zc ?_ | refine Go.for_zn ?_ | refine Go.lg_zc ?_ | refine Go.lg_zn ?_)))
namespace Lb
open PySem PySem.Spec PyProof.Rows L2 Bl
/-! ### what is grown anew -/
def Up (S S' : Sto) : Prop := ∀ b, S b ≠ none → S' b = S b
theorem Up.refl (S : Sto) : Up S S := fun _ _ => rfl
theorem Up.trans {S S1 S2 : Sto} (h : Up S S1) (k : Up S1 S2) : Up S S2 := fun b hb => by rw [k b (by rw [h b hb]; exact hb), h b hb]
theorem Up.sup {S S1 : Sto} {a : Addr} {ds : List D} (h : Up S S1) (n : S a = none) : Up S (sup S1 a ds) := fun b hb => by
  rw [sup_ne (fun z => hb (by rw [z]; exact n))]
  exact h b hb
theorem Bg.up {S S1 : Sto} {a : Addr} (h : Bg S a) (u : Up S S1) : Bg S1 a := by
  obtain ⟨c, m, e, r⟩ := h
  exact ⟨c, m, by rw [u a (by rw [e]; simp)]; exact e, r⟩
/-! ### fractions of any two sizes -/
/-! ### how far round: quarters and the rest -/
end Lb

namespace Lr
open PySem PySem.Spec PyProof.Rows L2 Bl Lb
def t_field_sign : TSd := sSeq (sIf (tOrD (tbl (dTwo (dTwo (dCall m_sign_of 1 0 (fun ds _ => ds) (aCons (vr 0) (aNil)) aNil) (dCall m_sign_of 1 0 (fun ds _ => ds) (aCons (vr 1) (aNil)) aNil) fMul) (cn (.int 0)) fGe)) (tbl (dTwo (vr 2) (cn (.int 0)) fEq))) (sRet (eIf (tbl (dTwo (vr 2) (cn (.int 0)) fEq)) (dCall m_sign_of 1 0 (fun ds _ => ds) (aCons (vr 0) (aNil)) aNil) (dCall m_sign_of 1 0 (fun ds _ => ds) (aCons (dTwo (dCall m_sign_of 1 0 (fun ds _ => ds) (aCons (vr 0) (aNil)) aNil) (dCall m_sign_of 1 0 (fun ds _ => ds) (aCons (vr 1) (aNil)) aNil) fAdd) (aNil)) aNil))) (sNx)) (sRet (dTwo (dCall m_sign_of 1 0 (fun ds _ => ds) (aCons (vr 0) (aNil)) aNil) (dCall m_sign_of 1 0 (fun ds _ => ds) (aCons (dTwo (dTwo (vr 0) (vr 0) fMul) (dTwo (dTwo (vr 1) (vr 1) fMul) (vr 2) fMul) fSub) (aNil)) aNil) fMul))
def m_field_sign : TFd := fnD 3 3 t_field_sign
theorem e_field_sign {a0 a1 a2 : D} {S : Sto} {Q : DK} {E : EK} (k : t_field_sign [some a0, some a1, some a2] S ⟨fun _ S1 => Q .non S1, Q, fun _ _ => False, fun _ _ => False, fun x _ S1 => E x S1⟩) : m_field_sign [a0, a1, a2] S Q E := ⟨rfl, k⟩
def t_root_sign : TSd := sSeq (sAsg (vr 0) (.tp (.nm 1 :: .nm 2 :: .nm 3 :: []))) (sSeq (sAsg (dTwo (dTwo (vr 1) (cn (.int 1)) fIx) (dTwo (vr 3) (cn (.int 1)) fIx) fMul) (.nm 4)) (sRet (dCall m_field_sign 3 0 (fun ds _ => ds) (aCons (dTwo (dTwo (dTwo (vr 1) (cn (.int 0)) fIx) (dTwo (vr 3) (cn (.int 1)) fIx) fMul) (dTwo (vr 3) (cn (.int 1)) fIx) fMul) (aCons (dTwo (vr 2) (vr 4) fMul) (aCons (dTwo (dTwo (vr 3) (cn (.int 0)) fIx) (dTwo (vr 3) (cn (.int 1)) fIx) fMul) (aNil)))) aNil)))
def m_root_sign : TFd := fnD 1 5 t_root_sign
theorem e_root_sign {a0 : D} {S : Sto} {Q : DK} {E : EK} (k : t_root_sign [some a0, none, none, none, none] S ⟨fun _ S1 => Q .non S1, Q, fun _ _ => False, fun _ _ => False, fun x _ S1 => E x S1⟩) : m_root_sign [a0] S Q E := ⟨rfl, k⟩
end Lr

namespace Rl
/-! ### real numbers: rows of fractions that draw together -/
structure Sq where
  f : Nat → Rat
  c : ∀ e : Rat, 0 < e → ∃ N, ∀ m n, N ≤ m → N ≤ n → f m - f n < e
def Eqv (a b : Sq) : Prop := ∀ e : Rat, 0 < e → ∃ N, ∀ n, N ≤ n → a.f n - b.f n < e ∧ b.f n - a.f n < e
theorem half {e : Rat} (h : 0 < e) : ∃ d : Rat, 0 < d ∧ d + d = e := ⟨e / 2, by grind, by grind⟩
theorem Eqv.refl (a : Sq) : Eqv a a := fun e h => ⟨0, fun n _ => ⟨by grind, by grind⟩⟩
theorem Eqv.symm {a b : Sq} (h : Eqv a b) : Eqv b a := fun e he => by
  obtain ⟨N, hN⟩ := h e he
  exact ⟨N, fun n hn => ⟨(hN n hn).2, (hN n hn).1⟩⟩
theorem Eqv.trans {a b c : Sq} (h : Eqv a b) (k : Eqv b c) : Eqv a c := fun e he => by
  obtain ⟨d, d0, dd⟩ := half he
  obtain ⟨N, hN⟩ := h d d0
  obtain ⟨M, hM⟩ := k d d0
  refine ⟨max N M, fun n hn => ?_⟩
  have h1 := hN n (by omega)
  have h2 := hM n (by omega)
  exact ⟨by grind, by grind⟩
instance sqd : Setoid Sq := ⟨Eqv, ⟨Eqv.refl, Eqv.symm, Eqv.trans⟩⟩
def Real : Type := Quotient sqd
theorem bound (a : Sq) : ∃ B : Rat, 0 < B ∧ ∃ N, ∀ n, N ≤ n → -B < a.f n ∧ a.f n < B := by
  obtain ⟨N, hN⟩ := a.c 1 (by decide)
  have key : ∀ x y : Rat, x - y < 1 → y - x < 1 → -(y * y + 3) < x ∧ x < y * y + 3 := fun x y h1 h2 => by
    have s1 := Lb.sq_nonneg (y - 1)
    have s2 := Lb.sq_nonneg (y + 1)
    exact ⟨by grind, by grind⟩
  refine ⟨a.f N * a.f N + 3, ?_, N, fun n hn => key _ _ (hN n N hn (Nat.le_refl _)) (hN N n (Nat.le_refl _) hn)⟩
  have := Lb.sq_nonneg (a.f N)
  grind
theorem mul_lt {x y B d : Rat} (h1 : -B < x) (h2 : x < B) (h3 : -d < y) (h4 : y < d) : x * y < B * d := by
  have a := Rat.mul_pos (show 0 < B - x by grind) (show 0 < d + y by grind)
  have b := Rat.mul_pos (show 0 < B + x by grind) (show 0 < d - y by grind)
  grind
theorem part {B e : Rat} (hB : 0 < B) (he : 0 < e) : ∃ d : Rat, 0 < d ∧ B * d = e := ⟨e / B, by
  rw [Rat.div_def]
  exact Rat.mul_pos he (Rat.inv_pos.mpr hB), by
  have : B ≠ 0 := fun z => by rw [z] at hB; exact absurd hB (by decide)
  rw [Rat.mul_comm]
  exact Rat.div_mul_cancel this⟩
def cst (q : Rat) : Sq := ⟨fun _ => q, fun e he => ⟨0, fun m n _ _ => by grind⟩⟩
def addS (a b : Sq) : Sq := ⟨fun n => a.f n + b.f n, fun e he => by
  obtain ⟨d, d0, dd⟩ := half he
  obtain ⟨N, hN⟩ := a.c d d0
  obtain ⟨M, hM⟩ := b.c d d0
  refine ⟨max N M, fun m n hm hn => ?_⟩
  have h1 := hN m n (by omega) (by omega)
  have h2 := hM m n (by omega) (by omega)
  grind⟩
def negS (a : Sq) : Sq := ⟨fun n => - a.f n, fun e he => by
  obtain ⟨N, hN⟩ := a.c e he
  refine ⟨N, fun m n hm hn => ?_⟩
  have := hN n m hn hm
  grind⟩
def mulS (a b : Sq) : Sq := ⟨fun n => a.f n * b.f n, fun e he => by
  obtain ⟨B, B0, N1, hB⟩ := bound a
  obtain ⟨C, C0, N2, hC⟩ := bound b
  obtain ⟨d, d0, dd⟩ := half he
  obtain ⟨u, u0, eu⟩ := part B0 d0
  obtain ⟨v, v0, ew⟩ := part C0 d0
  obtain ⟨N3, h3⟩ := b.c u u0
  obtain ⟨N4, h4⟩ := a.c v v0
  refine ⟨max (max N1 N2) (max N3 N4), fun m n hm hn => ?_⟩
  have x1 := hB m (by omega)
  have x2 := hC n (by omega)
  have y1 := h3 m n (by omega) (by omega)
  have y2 := h3 n m (by omega) (by omega)
  have z1 := h4 m n (by omega) (by omega)
  have z2 := h4 n m (by omega) (by omega)
  have p := mul_lt (x := a.f m) (y := b.f m - b.f n) x1.1 x1.2 (by grind) y1
  have q := mul_lt (x := b.f n) (y := a.f m - a.f n) x2.1 x2.2 (by grind) z1
  grind⟩
theorem add_eqv {a a' b b' : Sq} (h : Eqv a a') (k : Eqv b b') : Eqv (addS a b) (addS a' b') := fun e he => by
  obtain ⟨d, d0, dd⟩ := half he
  obtain ⟨N, hN⟩ := h d d0
  obtain ⟨M, hM⟩ := k d d0
  refine ⟨max N M, fun n hn => ?_⟩
  have h1 := hN n (by omega)
  have h2 := hM n (by omega)
  exact ⟨by show a.f n + b.f n - (a'.f n + b'.f n) < e; grind, by show a'.f n + b'.f n - (a.f n + b.f n) < e; grind⟩
theorem neg_eqv {a a' : Sq} (h : Eqv a a') : Eqv (negS a) (negS a') := fun e he => by
  obtain ⟨N, hN⟩ := h e he
  refine ⟨N, fun n hn => ?_⟩
  have h1 := hN n hn
  exact ⟨by show - a.f n - - a'.f n < e; grind, by show - a'.f n - - a.f n < e; grind⟩
theorem mul_eqv {a a' b b' : Sq} (h : Eqv a a') (k : Eqv b b') : Eqv (mulS a b) (mulS a' b') := fun e he => by
  obtain ⟨B, B0, N1, hB⟩ := bound a
  obtain ⟨C, C0, N2, hC⟩ := bound b'
  obtain ⟨d, d0, dd⟩ := half he
  obtain ⟨u, u0, eu⟩ := part B0 d0
  obtain ⟨v, v0, ew⟩ := part C0 d0
  obtain ⟨N3, h3⟩ := k u u0
  obtain ⟨N4, h4⟩ := h v v0
  refine ⟨max (max N1 N2) (max N3 N4), fun n hn => ?_⟩
  have x1 := hB n (by omega)
  have x2 := hC n (by omega)
  have y := h3 n (by omega)
  have z := h4 n (by omega)
  have p := mul_lt (x := a.f n) (y := b.f n - b'.f n) x1.1 x1.2 (by grind) y.1
  have p' := mul_lt (x := a.f n) (y := b'.f n - b.f n) x1.1 x1.2 (by grind) y.2
  have q := mul_lt (x := b'.f n) (y := a.f n - a'.f n) x2.1 x2.2 (by grind) z.1
  have q' := mul_lt (x := b'.f n) (y := a'.f n - a.f n) x2.1 x2.2 (by grind) z.2
  exact ⟨by show a.f n * b.f n - a'.f n * b'.f n < e; grind, by show a'.f n * b'.f n - a.f n * b.f n < e; grind⟩
namespace Real
def mk (a : Sq) : Real := Quotient.mk sqd a
def of (q : Rat) : Real := mk (cst q)
def add : Real → Real → Real := Quotient.lift₂ (fun a b => mk (addS a b)) fun _ _ _ _ h k => Quotient.sound (add_eqv h k)
def mul : Real → Real → Real := Quotient.lift₂ (fun a b => mk (mulS a b)) fun _ _ _ _ h k => Quotient.sound (mul_eqv h k)
def neg : Real → Real := Quotient.lift (fun a => mk (negS a)) fun _ _ h => Quotient.sound (neg_eqv h)
def pw (a : Real) : Nat → Real
  | 0 => of 1
  | n + 1 => mul (pw a n) a
theorem ext {a b : Sq} (h : ∀ n, a.f n = b.f n) : mk a = mk b := Quotient.sound (s := sqd) fun e he => ⟨0, fun n _ => by rw [h n]; exact ⟨by grind, by grind⟩⟩
instance : Add Real := ⟨add⟩
instance : Mul Real := ⟨mul⟩
instance : Neg Real := ⟨neg⟩
instance : Sub Real := ⟨fun a b => add a (neg b)⟩
instance : NatCast Real := ⟨fun n => of (n : Rat)⟩
instance : IntCast Real := ⟨fun n => of (n : Rat)⟩
instance (n : Nat) : OfNat Real n := ⟨of (n : Rat)⟩
instance : SMul Nat Real := ⟨fun n a => mul (of (n : Rat)) a⟩
instance : SMul Int Real := ⟨fun n a => mul (of (n : Rat)) a⟩
instance : HPow Real Nat Real := ⟨pw⟩
theorem of_add (a b : Rat) : of (a + b) = of a + of b := rfl
theorem of_mul (a b : Rat) : of (a * b) = of a * of b := rfl
theorem of_neg (a : Rat) : of (-a) = - of a := rfl
instance semi : Lean.Grind.Semiring Real where
  natCast := inferInstance
  ofNat := inferInstance
  nsmul := inferInstance
  npow := inferInstance
  add_zero a := Quotient.inductionOn a fun a => ext fun n => by show a.f n + ((0 : Nat) : Rat) = a.f n; grind
  add_comm a b := Quotient.inductionOn₂ a b fun a b => ext fun n => by show a.f n + b.f n = b.f n + a.f n; grind
  add_assoc a b c := Quotient.inductionOn₃ a b c fun a b c => ext fun n => by show a.f n + b.f n + c.f n = a.f n + (b.f n + c.f n); grind
  mul_assoc a b c := Quotient.inductionOn₃ a b c fun a b c => ext fun n => by show a.f n * b.f n * c.f n = a.f n * (b.f n * c.f n); grind
  mul_one a := Quotient.inductionOn a fun a => ext fun n => by show a.f n * ((1 : Nat) : Rat) = a.f n; grind
  one_mul a := Quotient.inductionOn a fun a => ext fun n => by show ((1 : Nat) : Rat) * a.f n = a.f n; grind
  left_distrib a b c := Quotient.inductionOn₃ a b c fun a b c => ext fun n => by show a.f n * (b.f n + c.f n) = a.f n * b.f n + a.f n * c.f n; grind
  right_distrib a b c := Quotient.inductionOn₃ a b c fun a b c => ext fun n => by show (a.f n + b.f n) * c.f n = a.f n * c.f n + b.f n * c.f n; grind
  zero_mul a := Quotient.inductionOn a fun a => ext fun n => by show ((0 : Nat) : Rat) * a.f n = ((0 : Nat) : Rat); grind
  mul_zero a := Quotient.inductionOn a fun a => ext fun n => by show a.f n * ((0 : Nat) : Rat) = ((0 : Nat) : Rat); grind
  pow_zero a := rfl
  pow_succ a n := rfl
  ofNat_succ n := ext fun _ => by show ((n + 1 : Nat) : Rat) = (n : Rat) + ((1 : Nat) : Rat); rw [Rat.natCast_add]
  ofNat_eq_natCast n := rfl
  nsmul_eq_natCast_mul n a := rfl
instance ring : Lean.Grind.Ring Real where
  toSemiring := semi
  intCast := inferInstance
  zsmul := inferInstance
  neg_add_cancel a := Quotient.inductionOn a fun a => ext fun n => by show - a.f n + a.f n = ((0 : Nat) : Rat); grind
  sub_eq_add_neg a b := rfl
  neg_zsmul i a := Quotient.inductionOn a fun a => ext fun n => by show ((-i : Int) : Rat) * a.f n = -((i : Rat) * a.f n); rw [Rat.intCast_neg]; grind
  zsmul_natCast_eq_nsmul n a := Quotient.inductionOn a fun a => ext fun _ => rfl
  intCast_ofNat n := rfl
  intCast_neg i := ext fun _ => by show ((-i : Int) : Rat) = -(i : Rat); rw [Rat.intCast_neg]
instance comm : Lean.Grind.CommRing Real where
  toRing := ring
  mul_comm a b := Quotient.inductionOn₂ a b fun a b => ext fun n => by show a.f n * b.f n = b.f n * a.f n; grind
end Real
end Rl

namespace Rl
/-! ### their order -/
def PosS (a : Sq) : Prop := ∃ e : Rat, 0 < e ∧ ∃ N, ∀ n, N ≤ n → e < a.f n
theorem pos_eqv {a b : Sq} (h : Eqv a b) (p : PosS a) : PosS b := by
  obtain ⟨e, e0, N, hN⟩ := p
  obtain ⟨d, d0, dd⟩ := half e0
  obtain ⟨M, hM⟩ := h d d0
  refine ⟨d, d0, max N M, fun n hn => ?_⟩
  have h1 := hN n (by omega)
  have h2 := (hM n (by omega)).1
  grind
theorem tri (a : Sq) : PosS a ∨ Eqv a (cst 0) ∨ PosS (negS a) := by
  by_cases h : Eqv a (cst 0)
  · exact .inr (.inl h)
  · have : ∃ e : Rat, 0 < e ∧ ∀ N, ∃ n, N ≤ n ∧ ¬ (a.f n - 0 < e ∧ 0 - a.f n < e) := by
      false_or_by_contra
      rename_i hh
      refine h fun e he => ?_
      false_or_by_contra
      rename_i h2
      refine hh ⟨e, he, fun N => ?_⟩
      false_or_by_contra
      rename_i h3
      refine h2 ⟨N, fun n hn => ?_⟩
      false_or_by_contra
      rename_i h4
      exact h3 ⟨n, hn, h4⟩
    obtain ⟨e, e0, h1⟩ := this
    obtain ⟨d, d0, dd⟩ := half e0
    obtain ⟨N, hN⟩ := a.c d d0
    obtain ⟨n, hn, h2⟩ := h1 N
    by_cases hp : 0 < a.f n
    · left
      refine ⟨d, d0, N, fun m hm => ?_⟩
      have h3 := hN n m hn hm
      have h4 : e ≤ a.f n := by
        false_or_by_contra
        rename_i h5
        exact h2 ⟨by grind, by grind⟩
      grind
    · right; right
      refine ⟨d, d0, N, fun m hm => ?_⟩
      have h3 := hN m n hm hn
      have h4 : e ≤ - a.f n := by
        false_or_by_contra
        rename_i h5
        exact h2 ⟨by grind, by grind⟩
      show d < - a.f m
      grind
theorem pos_add {a b : Sq} (h : PosS a) (k : PosS b) : PosS (addS a b) := by
  obtain ⟨e, e0, N, hN⟩ := h
  obtain ⟨d, d0, M, hM⟩ := k
  refine ⟨e, e0, max N M, fun n hn => ?_⟩
  have h1 := hN n (by omega)
  have h2 := hM n (by omega)
  show e < a.f n + b.f n
  grind
theorem pos_mul {a b : Sq} (h : PosS a) (k : PosS b) : PosS (mulS a b) := by
  obtain ⟨e, e0, N, hN⟩ := h
  obtain ⟨d, d0, M, hM⟩ := k
  refine ⟨e * d, Rat.mul_pos e0 d0, max N M, fun n hn => ?_⟩
  have h1 := hN n (by omega)
  have h2 := hM n (by omega)
  show e * d < a.f n * b.f n
  have p := Rat.mul_pos (show 0 < a.f n - e by grind) (show 0 < b.f n by grind)
  have q := Rat.mul_pos e0 (show 0 < b.f n - d by grind)
  grind
theorem not_both {a : Sq} (h : PosS a) (k : PosS (negS a)) : False := by
  obtain ⟨e, e0, N, hN⟩ := h
  obtain ⟨d, d0, M, hM⟩ := k
  have h1 := hN (max N M) (by omega)
  have h2 : d < - a.f (max N M) := hM (max N M) (by omega)
  grind
namespace Real
def Pos : Real → Prop := Quotient.lift PosS fun _ _ h => propext ⟨pos_eqv h, pos_eqv h.symm⟩
theorem tri (a : Real) : Pos a ∨ a = 0 ∨ Pos (-a) := Quotient.inductionOn a fun a => by
  rcases Rl.tri a with h | h | h
  · exact .inl h
  · exact .inr (.inl (Quotient.sound (s := sqd) (by
      have e : cst 0 = cst ((0 : Nat) : Rat) := rfl
      rw [e] at h
      exact h)))
  · exact .inr (.inr h)
theorem pos_add {a b : Real} : Pos a → Pos b → Pos (a + b) := Quotient.inductionOn₂ a b fun _ _ => Rl.pos_add
theorem pos_mul {a b : Real} : Pos a → Pos b → Pos (a * b) := Quotient.inductionOn₂ a b fun _ _ => Rl.pos_mul
theorem not_both {a : Real} : Pos a → Pos (-a) → False := Quotient.inductionOn a fun _ => Rl.not_both
theorem not_pos0 : ¬ Pos 0 := fun h => not_both h (by
  have : (-0 : Real) = 0 := by grind
  rw [this]; exact h)
theorem pos_of {q : Rat} : Pos (of q) ↔ 0 < q := ⟨fun h => by
  obtain ⟨e, e0, N, hN⟩ := h
  have : e < q := hN N (Nat.le_refl _)
  grind, fun h => by
  obtain ⟨d, d0, dd⟩ := half h
  exact ⟨d, d0, 0, fun n _ => by show d < q; grind⟩⟩
instance : LT Real := ⟨fun a b => Pos (b - a)⟩
instance : LE Real := ⟨fun a b => ¬ Pos (a - b)⟩
theorem lt_def {a b : Real} : a < b ↔ Pos (b - a) := Iff.rfl
theorem le_def {a b : Real} : a ≤ b ↔ ¬ Pos (a - b) := Iff.rfl
theorem not_lt' {a b : Real} : ¬ a < b ↔ b ≤ a := Iff.rfl
theorem tri' (a b : Real) : a < b ∨ a = b ∨ b < a := by
  rcases tri (b - a) with h | h | h
  · exact .inl h
  · exact .inr (.inl (by grind))
  · refine .inr (.inr ?_)
    rw [lt_def, show a - b = -(b - a) by grind]
    exact h
theorem asym {a b : Real} (h : a < b) (k : b < a) : False := by
  refine not_both h ?_
  rw [show -(b - a) = a - b by grind]
  exact k
theorem tr {a b c : Real} (h : a < b) (k : b < c) : a < c := by
  rw [lt_def, show c - a = (b - a) + (c - b) by grind]
  exact pos_add h k
instance lin : Std.IsLinearOrder Real where
  le_refl a := by
    rw [le_def, show a - a = 0 by grind]
    exact not_pos0
  le_trans a b c h k := fun (x : c < a) => by
    rcases tri' a b with y | y | y
    · rcases tri' b c with z | z | z
      · exact asym (tr y z) x
      · subst z; exact asym y x
      · exact k z
    · subst y; exact k x
    · exact h y
  le_antisymm a b h k := by
    rcases tri' a b with y | y | y
    · exact absurd y k
    · exact y
    · exact absurd y h
  le_total a b := by
    rcases tri' a b with y | y | y
    · exact .inl fun z => asym y z
    · subst y; exact .inl fun z => asym z z
    · exact .inr fun z => asym y z
instance : Std.LawfulOrderLT Real where
  lt_iff a b := ⟨fun h => ⟨fun z => asym h z, fun z => z h⟩, fun h => by
    rcases tri' a b with y | y | y
    · exact y
    · subst y; exact absurd (fun z => asym z z) h.2
    · exact absurd y h.1⟩
instance : Lean.Grind.OrderedRing Real where
  add_le_left_iff {a b} c := by
    rw [le_def, le_def, show a + c - (b + c) = a - b by grind]
  zero_lt_one := by
    rw [lt_def, show (1 : Real) - 0 = 1 by grind]
    exact (pos_of (q := ((1 : Nat) : Rat))).mpr (by decide)
  mul_lt_mul_of_pos_left {a b c} h k := by
    rw [lt_def, show c * b - c * a = (c - 0) * (b - a) by grind]
    exact pos_mul k h
  mul_lt_mul_of_pos_right {a b c} h k := by
    rw [lt_def, show b * c - a * c = (c - 0) * (b - a) by grind]
    exact pos_mul k h
theorem of_sub (a b : Rat) : of (a - b) = of a - of b := by rw [Rat.sub_eq_add_neg, of_add, of_neg]; grind
theorem of_lt {a b : Rat} : of a < of b ↔ a < b := by
  rw [lt_def, ← of_sub, pos_of]
  exact ⟨fun h => by grind, fun h => by grind⟩
theorem of_le {a b : Rat} : of a ≤ of b ↔ a ≤ b := by
  rw [← not_lt', of_lt, Rat.not_lt]
theorem of_inj {a b : Rat} : of a = of b ↔ a = b := ⟨fun h => Rat.le_antisymm (of_le.mp (by grind)) (of_le.mp (by grind)), fun h => by rw [h]⟩
theorem of_zero : of 0 = 0 := rfl
theorem of_one : of 1 = 1 := rfl
theorem mul_pos {a b : Real} (h : 0 < a) (k : 0 < b) : 0 < a * b := by
  rw [lt_def, show a * b - 0 = (a - 0) * (b - 0) by grind]
  exact pos_mul h k
theorem mul_zero' {a b : Real} (h : a * b = 0) : a = 0 ∨ b = 0 := by
  rcases tri' a 0 with x | x | x
  · rcases tri' b 0 with y | y | y
    · have := mul_pos (show 0 < -a by grind) (show 0 < -b by grind); grind
    · exact .inr y
    · have := mul_pos (show 0 < -a by grind) y; grind
  · exact .inl x
  · rcases tri' b 0 with y | y | y
    · have := mul_pos x (show 0 < -b by grind); grind
    · exact .inr y
    · have := mul_pos x y; grind
theorem sq_nn (a : Real) : 0 ≤ a * a := by
  rcases tri' a 0 with x | x | x
  · have := mul_pos (show 0 < -a by grind) (show 0 < -a by grind); grind
  · subst x; grind
  · have := mul_pos x x; grind
theorem sq_inj {a b : Real} (ha : 0 ≤ a) (hb : 0 ≤ b) (h : a * a = b * b) : a = b := by
  rcases mul_zero' (show (a - b) * (a + b) = 0 by grind) with x | x <;> grind
end Real
end Rl

namespace Rl
open Lb
theorem rat_lt_or_le (a b : Rat) : a < b ∨ b ≤ a := by
  by_cases h : a < b
  · exact .inl h
  · exact .inr (Rat.not_lt.mp h)
/-! ### square roots of fractions -/
def dn (n : Nat) : Rat := 1 / ((n + 1 : Nat) : Rat)
theorem succ_pos (n : Nat) : (0 : Rat) < ((n + 1 : Nat) : Rat) := by
  have : ((0 : Int) : Rat) < ((n + 1 : Nat) : Rat) := Rat.intCast_lt_intCast.mpr (show (0 : Int) < ((n + 1 : Nat) : Int) by omega)
  exact this
theorem dn_mul (n : Nat) : dn n * ((n + 1 : Nat) : Rat) = 1 := Rat.div_mul_cancel (fun z => by have := succ_pos n; rw [z] at this; exact absurd this (by decide))
theorem pos_left {a b : Rat} (hb : 0 < b) (h : 0 < a * b) : 0 < a := by
  rcases rat_lt_or_le 0 a with z | z
  · exact z
  · have := Rat.mul_nonneg (show 0 ≤ -a by grind) (Rat.le_of_lt hb)
    grind
theorem dn_pos (n : Nat) : 0 < dn n := pos_left (succ_pos n) (by rw [dn_mul]; decide)
theorem dn_le {N n : Nat} (h : N ≤ n) : dn n ≤ dn N := by
  have h1 := dn_mul N
  have h2 := dn_mul n
  have hc : ((N + 1 : Nat) : Rat) ≤ ((n + 1 : Nat) : Rat) := Rat.natCast_le_natCast.mpr (by omega)
  have p := Rat.mul_nonneg (Rat.le_of_lt (dn_pos n)) (show 0 ≤ ((n + 1 : Nat) : Rat) - ((N + 1 : Nat) : Rat) by grind)
  have q := succ_pos N
  have : 0 ≤ (dn N - dn n) * ((N + 1 : Nat) : Rat) := by grind
  rcases rat_lt_or_le (dn N) (dn n) with z | z
  · have := Rat.mul_pos (show 0 < dn n - dn N by grind) q
    grind
  · exact z
theorem arch {e : Rat} (h : 0 < e) : ∃ N, dn N < e := by
  refine ⟨e.den, ?_⟩
  have h1 := dn_mul e.den
  have hp := succ_pos e.den
  have en := num_den e
  have n1 : (1 : Rat) ≤ ((e.num : Int) : Rat) := by
    have a : 0 ≤ e.num := Rat.num_nonneg.mpr (Rat.le_of_lt h)
    have b : e.num ≠ 0 := fun z => by have := Rat.num_eq_zero.mp z; rw [this] at h; exact absurd h (by decide)
    have : ((1 : Int) : Rat) ≤ ((e.num : Int) : Rat) := Rat.intCast_le_intCast.mpr (by omega)
    exact this
  have ec : ((e.den + 1 : Nat) : Rat) = ((e.den : Int) : Rat) + 1 := by rw [Rat.natCast_add]; rfl
  rw [ec] at h1 hp
  have := pos_left hp (a := e - dn e.den) (by grind)
  grind
theorem sq_le {x y : Rat} (hx : 0 ≤ x) (hy : 0 ≤ y) (h : x * x ≤ y * y) : x ≤ y := by
  rcases rat_lt_or_le y x with z | z
  · have := Rat.mul_pos (show 0 < x - y by grind) (show 0 < x + y by grind)
    grind
  · exact z
theorem approx {q : Rat} (h : 0 ≤ q) (n : Nat) : ∃ r : Rat, 0 ≤ r ∧ r * r ≤ q ∧ q < (r + dn n) * (r + dn n) := by
  obtain ⟨h1, h2⟩ := isq_spec (q.num.toNat * q.den * ((n + 1) * (n + 1)))
  generalize isq (q.num.toNat * q.den * ((n + 1) * (n + 1))) = m at h1 h2
  have hn := Rat.num_nonneg.mpr h
  have en := num_den q
  have e1 : ((q.num.toNat : Nat) : Rat) = ((q.num : Int) : Rat) := by
    have : ((q.num.toNat : Nat) : Int) = q.num := by omega
    rw [← this]; rfl
  have b0 : (0 : Rat) < ((q.den : Nat) : Rat) := Rat.natCast_pos.mpr q.den_pos
  have b1 : (1 : Rat) ≤ ((q.den : Nat) : Rat) := by
    have : ((1 : Nat) : Rat) ≤ ((q.den : Nat) : Rat) := Rat.natCast_le_natCast.mpr q.den_pos
    exact this
  have k0 := succ_pos n
  have en' : q * ((q.den : Nat) : Rat) = ((q.num : Int) : Rat) := en
  have H1 : ((m : Nat) : Rat) * m ≤ ((q.num : Int) : Rat) * ((q.den : Nat) : Rat) * (((n + 1 : Nat) : Rat) * ((n + 1 : Nat) : Rat)) := by
    rw [← e1, ← Rat.natCast_mul, ← Rat.natCast_mul, ← Rat.natCast_mul, ← Rat.natCast_mul]
    exact Rat.natCast_le_natCast.mpr h1
  have H2 : ((q.num : Int) : Rat) * ((q.den : Nat) : Rat) * (((n + 1 : Nat) : Rat) * ((n + 1 : Nat) : Rat)) < (((m : Nat) : Rat) + 1) * (((m : Nat) : Rat) + 1) := by
    have ec : ((m : Nat) : Rat) + 1 = ((m + 1 : Nat) : Rat) := by rw [Rat.natCast_add]; rfl
    rw [ec, ← e1, ← Rat.natCast_mul, ← Rat.natCast_mul, ← Rat.natCast_mul, ← Rat.natCast_mul]
    exact Rat.natCast_lt_natCast.mpr h2
  have m0 : (0 : Rat) ≤ ((m : Nat) : Rat) := Rat.natCast_nonneg
  have dm := dn_mul n
  have dp := dn_pos n
  generalize ((m : Nat) : Rat) = M at *
  generalize ((n + 1 : Nat) : Rat) = K at *
  generalize ((q.den : Nat) : Rat) = B at *
  generalize ((q.num : Int) : Rat) = A at *
  generalize dn n = d at *
  have D0 : 0 < B * K := Rat.mul_pos b0 k0
  have rD : M / (B * K) * (B * K) = M := Rat.div_mul_cancel (fun z => by rw [z] at D0; exact absurd D0 (by decide))
  generalize M / (B * K) = r at rD
  have r0 : 0 ≤ r := by
    rcases rat_lt_or_le r 0 with z | z
    · have := Rat.mul_pos (show 0 < -r by grind) D0
      grind
    · exact z
  have DD : 0 < (B * K) * (B * K) := Rat.mul_pos D0 D0
  have eq : q * ((B * K) * (B * K)) = A * B * (K * K) := by grind
  refine ⟨r, r0, ?_, ?_⟩
  · rcases rat_lt_or_le q (r * r) with z | z
    · have := Rat.mul_pos (show 0 < r * r - q by grind) DD
      have e : r * r * ((B * K) * (B * K)) = M * M := by rw [← rD]; grind
      grind
    · exact z
  · have h3 : d * (B * K) = B := by
      have : d * (B * K) = B * (d * K) := by grind
      rw [this, dm, Rat.mul_one]
    have e : (r + d) * (r + d) * ((B * K) * (B * K)) = (M + B) * (M + B) := by
      have : (r + d) * (r + d) * ((B * K) * (B * K)) = (r * (B * K) + d * (B * K)) * (r * (B * K) + d * (B * K)) := by grind
      rw [this, rD, h3]
    have h4 : (M + 1) * (M + 1) ≤ (M + B) * (M + B) := by
      have := Rat.mul_nonneg (show 0 ≤ B - 1 by grind) (show 0 ≤ (M + B) + (M + 1) by grind)
      grind
    rcases rat_lt_or_le q ((r + d) * (r + d)) with z | z
    · exact z
    · have := Rat.mul_nonneg (show 0 ≤ q - (r + d) * (r + d) by grind) (Rat.le_of_lt DD)
      grind
noncomputable def apx (q : Rat) (h : 0 ≤ q) (n : Nat) : Rat := Classical.choose (approx h n)
theorem apx_spec {q : Rat} (h : 0 ≤ q) (n : Nat) : 0 ≤ apx q h n ∧ apx q h n * apx q h n ≤ q ∧ q < (apx q h n + dn n) * (apx q h n + dn n) := Classical.choose_spec (approx h n)
theorem lt_next {x y d q : Rat} (hx : 0 ≤ x) (hy : 0 ≤ y) (hd : 0 < d) (h1 : x * x ≤ q) (h2 : q < (y + d) * (y + d)) : x < y + d := by
  rcases rat_lt_or_le x (y + d) with z | z
  · exact z
  · have := Rat.mul_nonneg (show 0 ≤ x - (y + d) by grind) (show 0 ≤ x + (y + d) by grind)
    grind
noncomputable def rootS (q : Rat) (h : 0 ≤ q) : Sq := ⟨apx q h, fun e he => by
  obtain ⟨N, hN⟩ := arch he
  refine ⟨N, fun m n hm hn => ?_⟩
  obtain ⟨a0, a1, a2⟩ := apx_spec h m
  obtain ⟨b0, b1, b2⟩ := apx_spec h n
  have := lt_next a0 b0 (dn_pos n) a1 b2
  have := dn_le hn
  grind⟩
theorem sqrt_ex {q : Rat} (h : 0 ≤ q) : ∃ x : Real, 0 ≤ x ∧ x * x = Real.of q := by
  refine ⟨Real.mk (rootS q h), ?_, ?_⟩
  · rw [Real.le_def]
    rintro ⟨e, e0, N, hN⟩
    have h1 : e < ((0 : Nat) : Rat) + - apx q h N := hN N (Nat.le_refl _)
    have := (apx_spec h N).1
    have z : ((0 : Nat) : Rat) = 0 := rfl
    grind
  · refine Quotient.sound (s := sqd) fun e he => ?_
    have cp : 0 < 2 * q + 5 := by grind
    obtain ⟨d, d0, ed⟩ := part cp he
    obtain ⟨N, hN⟩ := arch d0
    refine ⟨N, fun n hn => ?_⟩
    obtain ⟨a0, a1, a2⟩ := apx_spec h n
    have dl := dn_le hn
    have dp := dn_pos n
    have d1 : dn n ≤ 1 := by
      have := dn_le (Nat.zero_le n)
      have z : dn 0 = 1 := by decide +kernel
      grind
    show apx q h n * apx q h n - q < e ∧ q - apx q h n * apx q h n < e
    generalize apx q h n = r at *
    generalize dn n = k at *
    have rq : r ≤ q + 1 := by
      have := sq_nonneg (q + 1)
      refine sq_le a0 (by grind) ?_
      have := Rat.mul_nonneg h h
      grind
    refine ⟨by grind, ?_⟩
    have t1 := Rat.mul_nonneg (Rat.le_of_lt dp) (show 0 ≤ q + 1 - r by grind)
    have t2 := Rat.mul_nonneg (Rat.le_of_lt dp) (show 0 ≤ 1 - k by grind)
    have t3 := Rat.mul_pos cp (show 0 < d - k by grind)
    grind
noncomputable def rtq (q : Rat) : Real := open Classical in if h : 0 ≤ q then Classical.choose (sqrt_ex h) else 0
theorem rtq_nn (q : Rat) : 0 ≤ rtq q := by
  unfold rtq
  split
  · rename_i h
    exact (Classical.choose_spec (sqrt_ex h)).1
  · grind
theorem rtq_sq {q : Rat} (h : 0 ≤ q) : rtq q * rtq q = Real.of q := by
  unfold rtq
  rw [dif_pos h]
  exact (Classical.choose_spec (sqrt_ex h)).2
noncomputable def val (x : Rt) : Real := Real.of x.b + Real.of (x.s : Rat) * rtq x.q
end Rl

namespace Rl
open Lb
/-! ### signs -/
open Classical in
noncomputable def sg (x : Real) : Int := if 0 < x then 1 else if x < 0 then -1 else 0
theorem sg_pos {x : Real} (h : 0 < x) : sg x = 1 := if_pos h
theorem sg_neg {x : Real} (h : x < 0) : sg x = -1 := by
  unfold sg
  rw [if_neg (fun z => Real.asym h z), if_pos h]
theorem sg_zero {x : Real} (h : x = 0) : sg x = 0 := by
  unfold sg
  rw [if_neg (fun z => by grind), if_neg (fun z => by grind)]
theorem sg_cases (x : Real) : (0 < x ∧ sg x = 1) ∨ (x = 0 ∧ sg x = 0) ∨ (x < 0 ∧ sg x = -1) := by
  rcases Real.tri' x 0 with h | h | h
  · exact .inr (.inr ⟨h, sg_neg h⟩)
  · exact .inr (.inl ⟨h, sg_zero h⟩)
  · exact .inl ⟨h, sg_pos h⟩
theorem sg_mul {k x : Real} (hk : 0 < k) : sg (k * x) = sg x := by
  rcases sg_cases x with ⟨h, e⟩ | ⟨h, e⟩ | ⟨h, e⟩ <;> rw [e]
  · exact sg_pos (Real.mul_pos hk h)
  · exact sg_zero (by rw [h]; grind)
  · have := Real.mul_pos hk (show 0 < -x by grind)
    exact sg_neg (by grind)
theorem sg_flip (x : Real) : sg (-x) = - sg x := by
  rcases sg_cases x with ⟨h, e⟩ | ⟨h, e⟩ | ⟨h, e⟩ <;> rw [e]
  · exact sg_neg (by grind)
  · exact sg_zero (by grind)
  · exact sg_pos (by grind)
theorem int_pos {i : Int} : 0 < Real.of (i : Rat) ↔ 0 < i := by
  rw [← Real.of_zero, Real.of_lt]
  exact Rat.intCast_pos
theorem int_neg {i : Int} : Real.of (i : Rat) < 0 ↔ i < 0 := by
  rw [← Real.of_zero, Real.of_lt]
  exact Rat.intCast_neg_iff
theorem int_zero {i : Int} : Real.of (i : Rat) = 0 ↔ i = 0 := by
  rw [← Real.of_zero, Real.of_inj]
  exact Rat.intCast_eq_zero_iff
theorem sg_int (i : Int) : sg (Real.of (i : Rat)) = i.sign := by
  rcases Int.lt_trichotomy i 0 with h | h | h
  · rw [sg_neg (int_neg.mpr h), Int.sign_eq_neg_one_of_neg h]
  · rw [sg_zero (int_zero.mpr h), h]; rfl
  · rw [sg_pos (int_pos.mpr h), Int.sign_eq_one_of_pos h]
theorem of_int_mul (i j : Int) : Real.of ((i * j : Int) : Rat) = Real.of (i : Rat) * Real.of (j : Rat) := by rw [Rat.intCast_mul, Real.of_mul]
theorem of_int_sub (i j : Int) : Real.of ((i - j : Int) : Rat) = Real.of (i : Rat) - Real.of (j : Rat) := by rw [Rat.intCast_sub, Real.of_sub]
/-- the sign of a number and one times the square root of a third -/
theorem field_law {t b h : Int} (h0 : 0 ≤ h) : sg (Real.of (t : Rat) + Real.of (b : Rat) * rtq (h : Rat)) = if t.sign * b.sign ≥ 0 ∨ h = 0 then (if h = 0 then t.sign else (t.sign + b.sign).sign) else t.sign * (t * t - b * b * h).sign := by
  have r0 := rtq_nn (h : Rat)
  have r2 := rtq_sq (q := (h : Rat)) (Rat.intCast_nonneg.mpr h0)
  by_cases hz : h = 0
  · rw [if_pos (.inr hz), if_pos hz]
    have : rtq (h : Rat) = 0 := by
      rw [hz] at r2 ⊢
      rcases Real.mul_zero' (show rtq ((0 : Int) : Rat) * rtq ((0 : Int) : Rat) = 0 by rw [r2]; rfl) with z | z <;> exact z
    rw [this, show Real.of (t : Rat) + Real.of (b : Rat) * 0 = Real.of (t : Rat) by grind, sg_int]
  · have hp : 0 < rtq (h : Rat) := by
      rcases Real.tri' 0 (rtq (h : Rat)) with z | z | z
      · exact z
      · rw [← z, show (0 : Real) * 0 = 0 by grind] at r2
        exact absurd (int_zero.mp r2.symm) hz
      · grind
    have e : sg (Real.of ((t * t - b * b * h : Int) : Rat)) = (t * t - b * b * h).sign := sg_int _
    rw [of_int_sub, of_int_mul, of_int_mul, of_int_mul, ← r2] at e
    rcases Int.lt_trichotomy t 0 with ht | ht | ht
    · have t1 := Int.sign_eq_neg_one_of_neg ht
      have tr := int_neg.mpr ht
      rcases Int.lt_trichotomy b 0 with hb | hb | hb
      · have b1 := Int.sign_eq_neg_one_of_neg hb
        have br := int_neg.mpr hb
        rw [t1, b1, if_pos (.inl (by decide)), if_neg hz]
        have := Real.mul_pos (show 0 < - Real.of (b : Rat) by grind) hp
        exact sg_neg (by grind)
      · rw [t1, hb, if_pos (.inl (by decide)), if_neg hz]
        have : Real.of ((0 : Int) : Rat) = 0 := rfl
        exact sg_neg (by rw [this]; grind)
      · have b1 := Int.sign_eq_one_of_pos hb
        have br := int_pos.mpr hb
        rw [t1, b1, if_neg (by rintro (z | z); exact absurd z (by decide); exact hz z), ← e]
        have pp := Real.mul_pos br hp
        generalize Real.of (t : Rat) = T at *
        generalize Real.of (b : Rat) = B at *
        generalize rtq (h : Rat) = r at *
        rw [show T * T - B * B * (r * r) = (B * r - T) * (-(T + B * r)) by grind, sg_mul (by grind), sg_flip]
        omega
    · rw [ht, if_pos (.inl (by simp)), if_neg hz]
      have z0 : Real.of ((0 : Int) : Rat) = 0 := rfl
      rw [z0, show (0 : Real) + Real.of (b : Rat) * rtq (h : Rat) = rtq (h : Rat) * Real.of (b : Rat) by grind, sg_mul hp, sg_int]
      simp
    · have t1 := Int.sign_eq_one_of_pos ht
      have tr := int_pos.mpr ht
      rcases Int.lt_trichotomy b 0 with hb | hb | hb
      · have b1 := Int.sign_eq_neg_one_of_neg hb
        have br := int_neg.mpr hb
        rw [t1, b1, if_neg (by rintro (z | z); exact absurd z (by decide); exact hz z), ← e]
        have pp := Real.mul_pos (show 0 < - Real.of (b : Rat) by grind) hp
        generalize Real.of (t : Rat) = T at *
        generalize Real.of (b : Rat) = B at *
        generalize rtq (h : Rat) = r at *
        rw [show T * T - B * B * (r * r) = (T - B * r) * (T + B * r) by grind, sg_mul (by grind)]
        omega
      · rw [t1, hb, if_pos (.inl (by decide)), if_neg hz]
        have : Real.of ((0 : Int) : Rat) = 0 := rfl
        exact sg_pos (by rw [this]; grind)
      · have b1 := Int.sign_eq_one_of_pos hb
        have br := int_pos.mpr hb
        rw [t1, b1, if_pos (.inl (by decide)), if_neg hz]
        have := Real.mul_pos br hp
        exact sg_pos (by grind)
end Rl

namespace Rl
open Lb
theorem of_nn {q : Rat} (h : 0 ≤ q) : 0 ≤ Real.of q := by
  rw [← Real.of_zero, Real.of_le]; exact h
theorem of_pos {q : Rat} (h : 0 < q) : 0 < Real.of q := by
  rw [← Real.of_zero, Real.of_lt]; exact h
theorem mul_nn' {a b : Real} (ha : 0 ≤ a) (hb : 0 ≤ b) : 0 ≤ a * b := by
  rcases Real.tri' 0 a with h | h | h
  · rcases Real.tri' 0 b with k | k | k
    · have := Real.mul_pos h k; grind
    · rw [← k]; grind
    · grind
  · rw [← h]; grind
  · grind
theorem rtq_uniq {q : Rat} {x : Real} (h0 : 0 ≤ q) (hx : 0 ≤ x) (h : x * x = Real.of q) : rtq q = x := Real.sq_inj (rtq_nn q) hx (by rw [rtq_sq h0, h])
theorem rtq_zero : rtq 0 = 0 := rtq_uniq (by decide) (by grind) (by rw [Real.of_zero]; grind)
theorem rtq_scale {q g : Rat} (h0 : 0 ≤ q) (hg : 0 ≤ g) : rtq (q * (g * g)) = rtq q * Real.of g := by
  refine rtq_uniq (Rat.mul_nonneg h0 (Rat.mul_nonneg hg hg)) (mul_nn' (rtq_nn q) (of_nn hg)) ?_
  rw [Real.of_mul, Real.of_mul, ← rtq_sq h0]
  grind
theorem rtq_pos {q : Rat} (h : 0 < q) : 0 < rtq q := by
  rcases Real.tri' 0 (rtq q) with z | z | z
  · exact z
  · have e := rtq_sq (Rat.le_of_lt h)
    rw [← z] at e
    have := of_pos h
    grind
  · have := rtq_nn q
    grind
theorem rtq_sqb {q : Rat} (h0 : 0 ≤ q) (h : sqb q) : rtq q = Real.of (sqr q) := rtq_uniq h0 (of_nn (sqr_nonneg q)) (by rw [← Real.of_mul, sqr_mul h])
theorem val_mk (b : Rat) (s : Int) (q : Rat) : val ⟨b, s, q⟩ = Real.of b + Real.of (s : Rat) * rtq q := rfl
theorem of_int0 : Real.of ((0 : Int) : Rat) = 0 := rfl
theorem of_int1 : Real.of ((1 : Int) : Rat) = 1 := rfl
theorem of_intm1 : Real.of ((-1 : Int) : Rat) = -1 := by
  have := Real.of_neg 1
  rw [Real.of_one] at this
  exact this
theorem canon_val {b q : Rat} {s : Int} (h0 : 0 ≤ q) : val (canon b s q) = Real.of b + Real.of (s : Rat) * rtq q := by
  unfold canon
  split
  · rename_i h
    rw [val_mk, of_int0]
    rcases h with h | h
    · rw [h, of_int0]; grind
    · rw [h, rtq_zero]; grind
  · split
    · rename_i h
      rw [val_mk, of_int0, rtq_sqb h0 h, Real.of_add, Real.of_mul]
      grind
    · rfl
/-- the sign of a root, in whole numbers -/
theorem root_law (x : Rt) (h0 : 0 ≤ x.q) : sg (val x) = sg (Real.of ((x.b.num * x.q.den * x.q.den : Int) : Rat) + Real.of ((x.s * (x.b.den * x.q.den) : Int) : Rat) * rtq ((x.q.num * x.q.den : Int) : Rat)) := by
  have eb := num_den x.b
  have eq := num_den x.q
  have bd : (0 : Rat) < ((x.b.den : Int) : Rat) := Rat.intCast_pos.mpr (by have := x.b.den_pos; omega)
  have qd : (0 : Rat) < ((x.q.den : Int) : Rat) := Rat.intCast_pos.mpr (by have := x.q.den_pos; omega)
  have e1 : ((x.q.num * x.q.den : Int) : Rat) = x.q * (((x.q.den : Int) : Rat) * ((x.q.den : Int) : Rat)) := by
    rw [Rat.intCast_mul, ← eq]; grind
  rw [e1, rtq_scale h0 (Rat.le_of_lt qd)]
  have e2 : ((x.b.num * x.q.den * x.q.den : Int) : Rat) = x.b * (((x.b.den : Int) : Rat) * (((x.q.den : Int) : Rat) * ((x.q.den : Int) : Rat))) := by
    rw [Rat.intCast_mul, Rat.intCast_mul, ← eb]; grind
  have e3 : ((x.s * (x.b.den * x.q.den) : Int) : Rat) = (x.s : Rat) * (((x.b.den : Int) : Rat) * ((x.q.den : Int) : Rat)) := by
    rw [Rat.intCast_mul, Rat.intCast_mul]
  rw [e2, e3]
  unfold val
  have p := Real.mul_pos (of_pos bd) (Real.mul_pos (of_pos qd) (of_pos qd))
  rw [← sg_mul p]
  congr 1
  simp only [Real.of_mul]
  grind
/-- a root as it is told -/
structure Ok (x : Rt) : Prop where
  q0 : 0 ≤ x.q
  s : x.s = -1 ∨ x.s = 0 ∨ x.s = 1
  z : x.s = 0 → x.q = 0
  p : x.s ≠ 0 → 0 < x.q
theorem num_sign {r : Rat} : (0 < r → r.num.sign = 1) ∧ (r < 0 → r.num.sign = -1) := by
  have n0 : 0 ≤ r.num ↔ 0 ≤ r := Rat.num_nonneg
  have nz : r.num = 0 ↔ r = 0 := Rat.num_eq_zero
  constructor
  · intro h
    have a := n0.mpr (Rat.le_of_lt h)
    have b : r.num ≠ 0 := fun z => by have := nz.mp z; rw [this] at h; exact absurd h (by decide)
    exact Int.sign_eq_one_of_pos (by omega)
  · intro h
    have a : ¬ 0 ≤ r.num := fun z => absurd (n0.mp z) (Rat.not_le.mpr h)
    exact Int.sign_eq_neg_one_of_neg (by omega)
theorem s_sq {x : Rt} (h : Ok x) : Real.of (x.s : Rat) * Real.of (x.s : Rat) * (rtq x.q * rtq x.q) = Real.of x.q := by
  rw [rtq_sq h.q0]
  rcases h.s with e | e | e
  · rw [e, of_intm1]; grind
  · rw [e, h.z e, of_int0, Real.of_zero]; grind
  · rw [e, of_int1]; grind
end Rl

namespace Lr
open PySem PySem.Spec PyProof.Rows L2 Bl Lb Rl
theorem sign_sm (i : Int) : sm 2 i.sign := by
  rcases Int.lt_trichotomy i 0 with z | z | z
  · rw [Int.sign_eq_neg_one_of_neg z]; exact sm.of (by decide)
  · rw [z]; exact sm.of (by decide)
  · rw [Int.sign_eq_one_of_pos z]; exact sm.of (by decide)
theorem field_sign_spec {t b h : Int} {n : Nat} {S : Sto} {Q : DK} {E : EK} (ht : sm n t) (hb : sm n b) (hh : sm n h) (h0 : 0 ≤ h) (hn : n ≤ 200000) (k : Q (.int (sg (Real.of (t : Rat) + Real.of (b : Rat) * rtq (h : Rat)))) S) : m_field_sign [.int t, .int b, .int h] S Q E := by
  refine e_field_sign ?_
  unfold t_field_sign
  rw [field_law h0] at k
  have st := sign_sm t
  have sb := sign_sm b
  walk_at "bl"
  refine sign_of_spec ?_
  walk_at "bl"
  refine sign_of_spec ?_
  walk_at "bl"
  refine Go.mul (st.cmul sb (by decide)) ?_
  walk_at "bl"
  refine Go.ifD (fun h1 => ?_) fun h1 => ?_
  · rw [if_pos (.inl h1)] at k
    walk_at "bl"
    refine Go.ifD (fun h2 => ?_) fun h2 => ?_
    · rw [if_pos h2] at k
      walk_at "bl"
      exact sign_of_spec k
    · rw [if_neg h2] at k
      walk_at "bl"
      refine sign_of_spec ?_
      walk_at "bl"
      refine sign_of_spec ?_
      walk_at "bl"
      exact sign_of_spec k
  · walk_at "bl"
    refine Go.ifD (fun h2 => ?_) fun h2 => ?_
    · rw [if_pos (.inr h2), if_pos h2] at k
      walk_at "bl"
      refine Go.ifD (fun h3 => ?_) fun h3 => absurd h2 h3
      walk_at "bl"
      exact sign_of_spec k
    · rw [if_neg (fun z => z.elim h1 h2)] at k
      walk_at "bl"
      refine sign_of_spec ?_
      walk_at "bl"
      refine Go.mul (ht.cmul ht (by omega)) ?_
      walk_at "bl"
      refine Go.mul (hb.cmul hb (by omega)) ?_
      walk_at "bl"
      refine Go.mul ((hb.mul hb).cmul hh (by omega)) ?_
      walk_at "bl"
      refine sign_of_spec ?_
      walk_at "bl"
      refine Go.mul (st.cmul (sign_sm _) (by decide)) ?_
      walk_at "bl"
      exact k
theorem root_sign_spec {x : Rt} {n m : Nat} {S : Sto} {Q : DK} {E : EK} (hb : sr n x.b) (hq : sr m x.q) (hs : x.s = -1 ∨ x.s = 0 ∨ x.s = 1) (h0 : 0 ≤ x.q) (hn : n + 2 * m ≤ 20000) (k : Q (.int (sg (val x))) S) : m_root_sign [rt x] S Q E := by
  refine e_root_sign ?_
  unfold t_root_sign
  rw [root_law x h0] at k
  have ss : sm 2 x.s := by unfold sm; omega
  walk_at "bl"
  refine Go.mul (hb.d.cmul hq.d (by omega)) ?_
  walk_at "bl"
  refine Go.mul (hb.n.cmul hq.d (by omega)) ?_
  walk_at "bl"
  refine Go.mul ((hb.n.mul hq.d).cmul hq.d (by omega)) ?_
  walk_at "bl"
  refine Go.mul (ss.cmul (hb.d.mul hq.d) (by omega)) ?_
  walk_at "bl"
  refine Go.mul (hq.n.cmul hq.d (by omega)) ?_
  walk_at "bl"
  exact field_sign_spec (n := n + 2 * m + 4) (((hb.n.mul hq.d).mul hq.d).mono (by omega)) ((ss.mul (hb.d.mul hq.d)).mono (by omega)) ((hq.n.mul hq.d).mono (by omega)) (Int.mul_nonneg (Rat.num_nonneg.mpr h0) (by omega)) (by omega) k
theorem neg_fr (q : Rat) : D.tup [.int (0 - q.num), .int (q.den : Int)] = fr (-q) := by
  rw [show (0 : Int) - q.num = -q.num by omega]
  rfl
end Lr

namespace Rl
open Lb
/-! ### unlike roots are apart -/
theorem mul_lt' {x y B C : Real} (h1 : -B < x) (h2 : x < B) (h3 : -C < y) (h4 : y < C) : -(B * C) < x * y ∧ x * y < B * C := by
  have a := Real.mul_pos (show 0 < B - x by grind) (show 0 < C + y by grind)
  have b := Real.mul_pos (show 0 < B + x by grind) (show 0 < C - y by grind)
  have c := Real.mul_pos (show 0 < B - x by grind) (show 0 < C - y by grind)
  have d := Real.mul_pos (show 0 < B + x by grind) (show 0 < C + y by grind)
  exact ⟨by grind, by grind⟩
/-- the product of the four conjugates, in fractions -/
def nrm4 (d p q : Rat) : Rat := (d * d + p - q) * (d * d + p - q) - 4 * (d * d) * p
theorem nrm4_eq {d p q : Rat} {u v : Real} (hu : u * u = Real.of p) (hv : v * v = Real.of q) : (Real.of d + u - v) * ((Real.of d + u + v) * ((Real.of d - u - v) * (Real.of d - u + v))) = Real.of (nrm4 d p q) := by
  have four : Real.of 4 = 4 := rfl
  unfold nrm4
  simp only [Real.of_sub, Real.of_mul, Real.of_add, ← hu, ← hv, four]
  grind
/-- it is a whole number by this one -/
theorem nrm4_int (d p q : Rat) : ∃ Z : Int, nrm4 d p q * (((d.den : Int) * d.den * (p.den * q.den) * (d.den * d.den * (p.den * q.den)) : Int) : Rat) = (Z : Rat) := by
  have h1 := num_den d
  have h2 := num_den p
  have h3 := num_den q
  refine ⟨(d.num * d.num * (p.den * q.den) + p.num * (d.den * d.den * q.den) - q.num * (d.den * d.den * p.den)) * (d.num * d.num * (p.den * q.den) + p.num * (d.den * d.den * q.den) - q.num * (d.den * d.den * p.den)) - 4 * (d.num * d.num) * (p.num * (d.den * d.den * (p.den * (q.den * q.den)))), ?_⟩
  simp only [Rat.intCast_sub, Rat.intCast_mul, Rat.intCast_add, ← h1, ← h2, ← h3]
  have four : ((4 : Int) : Rat) = 4 := rfl
  rw [four]
  unfold nrm4
  grind
theorem sqb_div {a b q : Rat} (hb : b ≠ 0) (h : a * a = b * b * q) : sqb q := by
  refine sqb_of (t := a / b) ?_
  have e := Rat.div_mul_cancel (a := a) hb
  generalize a / b = c at *
  rw [← e] at h
  have z : b * (b * (c * c - q)) = 0 := by grind
  rcases Rat.mul_eq_zero.mp z with z | z
  · exact absurd z hb
  · rcases Rat.mul_eq_zero.mp z with z | z
    · exact absurd z hb
    · grind
/-- unlike roots, of which the product of the conjugates comes to 0 -/
theorem nrm4_zero {x y : Rt} (hx : Ok x) (hy : Ok y) (cx : Cn x) (cy : Cn y) (h : nrm4 (x.b - y.b) x.q y.q = 0) : x = y ∨ (x.b = y.b ∧ x.q = y.q ∧ x.s ≠ 0 ∧ x.s = -y.s) := by
  unfold nrm4 at h
  by_cases hd : x.b - y.b = 0
  · have eb : x.b = y.b := by grind
    rw [hd] at h
    have z : (x.q - y.q) * (x.q - y.q) = 0 := by grind
    have eq : x.q = y.q := by rcases Rat.mul_eq_zero.mp z with z | z <;> grind
    by_cases hs : x.s = 0
    · have q0 := hx.z hs
      have ys : y.s = 0 := by
        false_or_by_contra
        rename_i hh
        have := hy.p hh
        rw [← eq, q0] at this
        exact absurd this (by decide)
      left
      cases x; cases y
      simp only at eb eq hs ys
      rw [eb, eq, hs, ys]
    · have ys : y.s ≠ 0 := fun z => by
        have := hy.z z
        have := hx.p hs
        rw [eq, hy.z z] at this
        exact absurd this (by decide)
      by_cases e : x.s = y.s
      · left
        cases x; cases y
        simp only at eb eq e
        rw [eb, eq, e]
      · right
        refine ⟨eb, eq, hs, ?_⟩
        have := hx.s
        have := hy.s
        omega
  · have n2 : 2 * (x.b - y.b) ≠ 0 := fun z => hd (by grind)
    have s1 := sqb_div (a := (x.b - y.b) * (x.b - y.b) + x.q - y.q) (b := 2 * (x.b - y.b)) (q := x.q) n2 (by grind)
    rcases cx with ⟨c1, c2⟩ | ⟨_, _, c⟩
    · rw [c2] at h
      have z : ((x.b - y.b) * (x.b - y.b) - y.q) * ((x.b - y.b) * (x.b - y.b) - y.q) = 0 := by grind
      have e : (x.b - y.b) * (x.b - y.b) = y.q := by rcases Rat.mul_eq_zero.mp z with z | z <;> grind
      rcases cy with ⟨e1, e2⟩ | ⟨_, _, e1⟩
      · rw [e2] at e
        rcases Rat.mul_eq_zero.mp e with z | z <;> exact absurd z hd
      · exact absurd (sqb_of e) e1
    · exact absurd s1 c
theorem of_int_one {Z : Int} (h1 : -1 < Real.of (Z : Rat)) (h2 : Real.of (Z : Rat) < 1) : Z = 0 := by
  rw [← of_intm1, Real.of_lt, Rat.intCast_lt_intCast] at h1
  rw [← of_int1, Real.of_lt, Rat.intCast_lt_intCast] at h2
  omega
/-- .. else they are apart -/
theorem conj_apart {x y : Rt} (hx : Ok x) (hy : Ok y) (hN : nrm4 (x.b - y.b) x.q y.q ≠ 0) {T W : Real} (hT : 0 < T) (hd1 : -T < Real.of (x.b - y.b) + Real.of (x.s : Rat) * rtq x.q + Real.of (y.s : Rat) * rtq y.q) (hd2 : Real.of (x.b - y.b) + Real.of (x.s : Rat) * rtq x.q + Real.of (y.s : Rat) * rtq y.q < T)
    (hd3 : -T < Real.of (x.b - y.b) - Real.of (x.s : Rat) * rtq x.q - Real.of (y.s : Rat) * rtq y.q) (hd4 : Real.of (x.b - y.b) - Real.of (x.s : Rat) * rtq x.q - Real.of (y.s : Rat) * rtq y.q < T)
    (hd5 : -T < Real.of (x.b - y.b) - Real.of (x.s : Rat) * rtq x.q + Real.of (y.s : Rat) * rtq y.q) (hd6 : Real.of (x.b - y.b) - Real.of (x.s : Rat) * rtq x.q + Real.of (y.s : Rat) * rtq y.q < T)
    (hW : W = Real.of ((((x.b - y.b).den : Int) * (x.b - y.b).den * (x.q.den * y.q.den) * ((x.b - y.b).den * (x.b - y.b).den * (x.q.den * y.q.den)) : Int) : Rat)) :
    1 ≤ (val x - val y) * (T * (T * T) * W) ∨ (val x - val y) * (T * (T * T) * W) ≤ -1 := by
  have su : Real.of (x.s : Rat) * rtq x.q * (Real.of (x.s : Rat) * rtq x.q) = Real.of x.q := by rw [← s_sq hx]; grind
  have sv : Real.of (y.s : Rat) * rtq y.q * (Real.of (y.s : Rat) * rtq y.q) = Real.of y.q := by rw [← s_sq hy]; grind
  have e := nrm4_eq (d := x.b - y.b) su sv
  obtain ⟨Z, hZ⟩ := nrm4_int (x.b - y.b) x.q y.q
  have ev1 : val x - val y = Real.of (x.b - y.b) + Real.of (x.s : Rat) * rtq x.q - Real.of (y.s : Rat) * rtq y.q := by
    unfold val
    rw [Real.of_sub]
    grind
  rw [ev1]
  have hz := congrArg Real.of hZ
  rw [Real.of_mul, ← hW, ← e] at hz
  generalize Real.of (x.b - y.b) = d at *
  generalize Real.of (x.s : Rat) * rtq x.q = u at *
  generalize Real.of (y.s : Rat) * rtq y.q = v at *
  false_or_by_contra
  rename_i hh
  have h1 : (d + u - v) * (T * (T * T) * W) < 1 := by
    rcases Real.tri' ((d + u - v) * (T * (T * T) * W)) 1 with z | z | z
    · exact z
    · exact absurd (.inl (by grind)) hh
    · exact absurd (.inl (by grind)) hh
  have h2 : -1 < (d + u - v) * (T * (T * T) * W) := by
    rcases Real.tri' ((d + u - v) * (T * (T * T) * W)) (-1) with z | z | z
    · exact absurd (.inr (by grind)) hh
    · exact absurd (.inr (by grind)) hh
    · exact z
  obtain ⟨a1, a2⟩ := mul_lt' hd3 hd4 hd5 hd6
  obtain ⟨b1, b2⟩ := mul_lt' hd1 hd2 a1 a2
  have T3 := Real.mul_pos hT (Real.mul_pos hT hT)
  obtain ⟨c1, c2⟩ := mul_lt' (B := 1) h2 h1 b1 b2
  have key : (d + u - v) * (T * (T * T) * W) * ((d + u + v) * ((d - u - v) * (d - u + v))) = Real.of (Z : Rat) * (T * (T * T)) := by
    rw [← hz]
    grind
  rw [key] at c1 c2
  generalize T * (T * T) = t at *
  have zz : Z = 0 := by
    refine of_int_one ?_ ?_
    · rcases Real.tri' (-1) (Real.of (Z : Rat)) with z | z | z
      · exact z
      · rw [← z] at c1; grind
      · have := Real.mul_pos (show 0 < -1 - Real.of (Z : Rat) by grind) T3
        grind
    · rcases Real.tri' (Real.of (Z : Rat)) 1 with z | z | z
      · exact z
      · rw [z] at c2; grind
      · have := Real.mul_pos (show 0 < Real.of (Z : Rat) - 1 by grind) T3
        grind
  rw [zz] at hZ
  have hw : (((((x.b - y.b).den : Int) * (x.b - y.b).den * (x.q.den * y.q.den) * ((x.b - y.b).den * (x.b - y.b).den * (x.q.den * y.q.den)) : Int)) : Rat) ≠ 0 := castne (by
    have p1 : (0 : Int) < (x.b - y.b).den := by have := (x.b - y.b).den_pos; omega
    have p2 : (0 : Int) < x.q.den := by have := x.q.den_pos; omega
    have p3 : (0 : Int) < y.q.den := by have := y.q.den_pos; omega
    have := Int.mul_pos (Int.mul_pos p1 p1) (Int.mul_pos p2 p3)
    have := Int.mul_pos this this
    omega)
  rcases Rat.mul_eq_zero.mp hZ with z | z
  · exact hN z
  · exact hw z
end Rl

namespace Rl
open Lb
theorem ofI_le {i j : Int} : Real.of (i : Rat) ≤ Real.of (j : Rat) ↔ i ≤ j := by rw [Real.of_le, Rat.intCast_le_intCast]
theorem ofI_add (i j : Int) : Real.of ((i + j : Int) : Rat) = Real.of (i : Rat) + Real.of (j : Rat) := by rw [Rat.intCast_add, Real.of_add]
theorem ofI_neg (i : Int) : Real.of ((-i : Int) : Rat) = - Real.of (i : Rat) := by rw [Rat.intCast_neg, Real.of_neg]
/-- a fraction's size -/
theorem sr_lt {n : Nat} {b : Rat} (h : sr n b) : -Real.of ((2 ^ n : Int) : Rat) < Real.of b ∧ Real.of b < Real.of ((2 ^ n : Int) : Rat) := by
  have e := num_den b
  have d1 : (1 : Rat) ≤ ((b.den : Int) : Rat) := by
    have : ((1 : Int) : Rat) ≤ ((b.den : Int) : Rat) := Rat.intCast_le_intCast.mpr (by have := b.den_pos; omega)
    exact this
  have hn := h.n
  have hp : ((2 : Int) ^ n) = ((2 ^ n : Nat) : Int) := by push_cast; rfl
  have n1 : b.num < 2 ^ n := by
    unfold sm at hn
    rw [hp]; omega
  have n2 : -(2 ^ n : Int) < b.num := by
    unfold sm at hn
    rw [hp]; omega
  have r1 : ((b.num : Int) : Rat) < ((2 ^ n : Int) : Rat) := Rat.intCast_lt_intCast.mpr n1
  have r2 : ((-(2 ^ n : Int) : Int) : Rat) < ((b.num : Int) : Rat) := Rat.intCast_lt_intCast.mpr n2
  rw [Rat.intCast_neg] at r2
  have pp : (0 : Rat) < ((2 ^ n : Int) : Rat) := by grind
  generalize ((2 ^ n : Int) : Rat) = P at *
  generalize ((b.num : Int) : Rat) = N at *
  generalize ((b.den : Int) : Rat) = D at *
  rw [← Real.of_neg, Real.of_lt, Real.of_lt]
  constructor
  · rcases rat_lt_or_le (-P) b with z | z
    · exact z
    · have := Rat.mul_nonneg (show 0 ≤ -P - b by grind) (show 0 ≤ D by grind)
      have := Rat.mul_nonneg (Rat.le_of_lt pp) (show 0 ≤ D - 1 by grind)
      grind
  · rcases rat_lt_or_le b P with z | z
    · exact z
    · have := Rat.mul_nonneg (show 0 ≤ b - P by grind) (show 0 ≤ D by grind)
      have := Rat.mul_nonneg (Rat.le_of_lt pp) (show 0 ≤ D - 1 by grind)
      grind
theorem lt_of_sq {x t : Real} (ht : 0 ≤ t) (hx : 0 ≤ x) (h : x * x < t * t) : x < t := by
  rcases Real.tri' x t with z | z | z
  · exact z
  · rw [z] at h; grind
  · have := mul_nn' (show 0 ≤ x - t by grind) (show 0 ≤ x + t by grind)
    grind
theorem ofI_sq (n : Nat) : Real.of ((2 ^ (n + n) : Int) : Rat) = Real.of ((2 ^ n : Int) : Rat) * Real.of ((2 ^ n : Int) : Rat) := by
  rw [Int.pow_add, of_int_mul]
theorem pow_pos' (n : Nat) : 0 < Real.of ((2 ^ n : Int) : Rat) := int_pos.mpr (Int.pow_pos (by decide))
/-- a square root's size -/
theorem rt_lt {m : Nat} {q : Rat} (h0 : 0 ≤ q) (h : sr (m + m) q) : rtq q < Real.of ((2 ^ m : Int) : Rat) := by
  refine lt_of_sq (by have := pow_pos' m; grind) (rtq_nn q) ?_
  rw [rtq_sq h0, ← ofI_sq]
  exact (sr_lt h).2
/-- .. from below -/
theorem rt_ge {m : Nat} {q : Rat} (h0 : 0 < q) (h : sr (m + m) q) : 1 ≤ rtq q * Real.of ((2 ^ m : Int) : Rat) := by
  have e := rtq_sq (Rat.le_of_lt h0)
  have p := pow_pos' m
  have s := ofI_sq m
  have k : 1 ≤ Real.of q * Real.of ((2 ^ (m + m) : Int) : Rat) := by
    have en := num_den q
    have hd := h.d
    have n1 : 0 < q.num := by
      have a : 0 ≤ q.num := Rat.num_nonneg.mpr (Rat.le_of_lt h0)
      have b : q.num ≠ 0 := fun z => by have := Rat.num_eq_zero.mp z; rw [this] at h0; exact absurd h0 (by decide)
      omega
    have hp : ((2 : Int) ^ (m + m)) = ((2 ^ (m + m) : Nat) : Int) := by push_cast; rfl
    have r1 : ((1 : Int) : Rat) ≤ ((q.num : Int) : Rat) := Rat.intCast_le_intCast.mpr (by omega)
    have r2 : ((q.den : Int) : Rat) ≤ ((2 ^ (m + m) : Int) : Rat) := Rat.intCast_le_intCast.mpr (by
      unfold sm at hd
      rw [hp]; omega)
    rw [← Real.of_mul, ← Real.of_one, Real.of_le]
    have one : ((1 : Int) : Rat) = 1 := rfl
    rw [one] at r1
    have := Rat.mul_nonneg (Rat.le_of_lt h0) (show 0 ≤ ((2 ^ (m + m) : Int) : Rat) - ((q.den : Int) : Rat) by grind)
    grind
  rw [s, ← e] at k
  generalize Real.of ((2 ^ m : Int) : Rat) = t at *
  have r0 := rtq_nn q
  rcases Real.tri' (rtq q * t) 1 with z | z | z
  · have a := mul_nn' r0 (show 0 ≤ t by grind)
    have := Real.mul_pos (show 0 < 1 - rtq q * t by grind) (show 0 < 1 + rtq q * t by grind)
    grind
  · grind
  · grind
theorem s_le {x : Rt} (hx : Ok x) : -(rtq x.q) ≤ Real.of (x.s : Rat) * rtq x.q ∧ Real.of (x.s : Rat) * rtq x.q ≤ rtq x.q := by
  have := rtq_nn x.q
  rcases hx.s with e | e | e
  · rw [e, of_intm1]; exact ⟨by grind, by grind⟩
  · rw [e, of_int0]; exact ⟨by grind, by grind⟩
  · rw [e, of_int1]; exact ⟨by grind, by grind⟩
theorem up_to {z K L : Real} (hK : 0 < K) (hL : K ≤ L) (h : 1 ≤ z * K ∨ z * K ≤ -1) : 1 ≤ z * L ∨ z * L ≤ -1 := by
  rcases h with h | h
  · left
    have z0 : 0 < z := by
      rcases Real.tri' z 0 with y | y | y
      · have := Real.mul_pos (show 0 < -z by grind) hK; grind
      · rw [y] at h; grind
      · exact y
    have := mul_nn' (show 0 ≤ z by grind) (show 0 ≤ L - K by grind)
    grind
  · right
    have z0 : z < 0 := by
      rcases Real.tri' z 0 with y | y | y
      · exact y
      · rw [y] at h; grind
      · have := Real.mul_pos y hK; grind
    have := mul_nn' (show 0 ≤ -z by grind) (show 0 ≤ L - K by grind)
    grind
theorem apart {x y : Rt} (hx : Ok x) (hy : Ok y) (cx : Cn x) (cy : Cn y) (xb : sr 120 x.b) (yb : sr 120 y.b) (xq : sr 42 x.q) (yq : sr 42 y.q) (hne : x ≠ y) :
    1 ≤ (val x - val y) * Real.of ((2 ^ 1600 : Int) : Rat) ∨ (val x - val y) * Real.of ((2 ^ 1600 : Int) : Rat) ≤ -1 := by
  by_cases hN : nrm4 (x.b - y.b) x.q y.q = 0
  · rcases nrm4_zero hx hy cx cy hN with e | ⟨e1, e2, e3, e4⟩
    · exact absurd e hne
    · have r1 := rt_ge (m := 21) (hx.p e3) xq
      have rn := rtq_nn x.q
      have pp := pow_pos' 21
      refine up_to (K := Real.of ((2 ^ 21 : Int) : Rat)) pp (ofI_le.mpr (by decide +kernel)) ?_
      have ev1 : val x - val y = 2 * (Real.of (x.s : Rat) * rtq x.q) := by
        have : Real.of ((-y.s : Int) : Rat) = - Real.of (y.s : Rat) := ofI_neg _
        rw [← e4] at this
        unfold val
        rw [e1, e2] at *
        grind
      rw [ev1]
      generalize Real.of ((2 ^ 21 : Int) : Rat) = t at *
      rcases hx.s with e | e | e
      · rw [e, of_intm1]
        right; grind
      · exact absurd e e3
      · rw [e, of_int1]
        left; grind
  · have d2 : sr 241 (x.b - y.b) := by rw [Rat.sub_eq_add_neg]; exact (xb.add yb.neg).mono (by decide)
    obtain ⟨b1, b2⟩ := sr_lt xb
    obtain ⟨b3, b4⟩ := sr_lt yb
    have u := s_le hx
    have v := s_le hy
    have ru := rt_lt (m := 21) hx.q0 xq
    have rv := rt_lt (m := 21) hy.q0 yq
    have big : Real.of ((2 ^ 120 : Int) : Rat) + Real.of ((2 ^ 120 : Int) : Rat) + Real.of ((2 ^ 21 : Int) : Rat) + Real.of ((2 ^ 21 : Int) : Rat) ≤ Real.of ((2 ^ 123 : Int) : Rat) := by
      rw [← ofI_add, ← ofI_add, ← ofI_add, ofI_le]
      decide +kernel
    have K := conj_apart hx hy hN (T := Real.of ((2 ^ 123 : Int) : Rat)) (pow_pos' 123) (by rw [Real.of_sub]; grind) (by rw [Real.of_sub]; grind) (by rw [Real.of_sub]; grind) (by rw [Real.of_sub]; grind) (by rw [Real.of_sub]; grind) (by rw [Real.of_sub]; grind) rfl
    rw [← of_int_mul, ← of_int_mul, ← of_int_mul] at K
    have p1 : (0 : Int) < (x.b - y.b).den := by have := (x.b - y.b).den_pos; omega
    have p2 : (0 : Int) < x.q.den := by have := x.q.den_pos; omega
    have p3 : (0 : Int) < y.q.den := by have := y.q.den_pos; omega
    have pw := Int.mul_pos (Int.mul_pos p1 p1) (Int.mul_pos p2 p3)
    have pz := Int.mul_pos pw pw
    have dd := d2.d
    have sz := (((dd.mul dd).mul (xq.d.mul yq.d)).mul ((dd.mul dd).mul (xq.d.mul yq.d)))
    refine up_to (int_pos.mpr (Int.mul_pos (by decide) pz)) (ofI_le.mpr ?_) K
    have lt : ((x.b - y.b).den : Int) * (x.b - y.b).den * (x.q.den * y.q.den) * ((x.b - y.b).den * (x.b - y.b).den * (x.q.den * y.q.den)) ≤ 2 ^ 1132 := by
      have := sz.mono (show _ ≤ 1132 by decide)
      unfold sm at this
      have hp : ((2 : Int) ^ 1132) = ((2 ^ 1132 : Nat) : Int) := by push_cast; rfl
      rw [hp]
      omega
    have := Int.mul_le_mul_of_nonneg_left lt (show (0 : Int) ≤ 2 ^ 123 * (2 ^ 123 * 2 ^ 123) by decide +kernel)
    refine Int.le_trans this ?_
    decide +kernel
end Rl

namespace Rl
open Lb
end Rl

namespace Rl
open Lb
/-! ### floors, scaled roots, a fraction and a root -/
theorem ge_of_sq {x t : Real} (ht : 0 ≤ t) (hx : 0 ≤ x) (h : x * x ≤ t * t) : x ≤ t := by
  rcases Real.tri' x t with z | z | z
  · grind
  · grind
  · have := Real.mul_pos (show 0 < x - t by grind) (show 0 < x + t by grind)
    grind
theorem move_val (x : Rt) (g : Rat) : val ⟨x.b + g, x.s, x.q⟩ = val x + Real.of g := by
  unfold val
  simp only
  rw [Real.of_add]
  grind
theorem move_ok {x : Rt} {g : Rat} (h : Ok x) : Ok ⟨x.b + g, x.s, x.q⟩ := ⟨h.q0, h.s, h.z, h.p⟩
theorem move_cn {x : Rt} {g : Rat} (h : Cn x) : Cn ⟨x.b + g, x.s, x.q⟩ := h
theorem val_fr (r : Rat) : val ⟨r, 0, 0⟩ = Real.of r := by
  unfold val
  simp only
  rw [of_int0]
  grind
theorem ok_fr0 (r : Rat) : Ok ⟨r, 0, 0⟩ := ⟨Rat.le_refl, .inr (.inl rfl), fun _ => rfl, fun z => absurd rfl z⟩
theorem cn_fr0 (r : Rat) : Cn ⟨r, 0, 0⟩ := .inl ⟨rfl, rfl⟩
end Rl

namespace Ld
open PySem PySem.Spec PyProof.Rows L2 Bl Lb
def t_from_frac : TSd := sRet (dTup (aCons (vr 0) (aCons (cn (.int 0)) (aCons (cn k_ZERO) (aNil)))))
def m_from_frac : TFd := fnD 1 1 t_from_frac
theorem e_from_frac {a0 : D} {S : Sto} {Q : DK} {E : EK} (k : t_from_frac [some a0] S ⟨fun _ S1 => Q .non S1, Q, fun _ _ => False, fun _ _ => False, fun x _ S1 => E x S1⟩) : m_from_frac [a0] S Q E := ⟨rfl, k⟩
def t_is_out : TSd := sSeq (sAsg (dSl (vr 0) (oSome (cn (.int 3))) (oNone)) (.tp (.nm 2 :: .nm 3 :: []))) (sSeq (sIf (tbl (dTwo (vr 2) (vr 3) fEq)) (sRet (cn (.bl true))) (sNx)) (sRet (eIf (tbl (dTwo (dCall m_cross_of 2 0 (fun ds _ => ds) (aCons (vr 2) (aCons (vr 1) (aNil))) aNil) (cn (.int 0)) fGe)) (dTwo (dCall m_cross_of 2 0 (fun ds _ => ds) (aCons (vr 1) (aCons (vr 3) (aNil))) aNil) (cn (.int 0)) fGe) (cn (.bl false)))))
def m_is_out : TFd := fnD 2 4 t_is_out
theorem e_is_out {a0 a1 : D} {S : Sto} {Q : DK} {E : EK} (k : t_is_out [some a0, some a1, none, none] S ⟨fun _ S1 => Q .non S1, Q, fun _ _ => False, fun _ _ => False, fun x _ S1 => E x S1⟩) : m_is_out [a0, a1] S Q E := ⟨rfl, k⟩
def t_steps_from : TSd := sRet (dTup (aCons (dTwo (dTwo (vr 1) (cn (.int 0)) fIx) (dTwo (dTwo (vr 0) (cn (.int 0)) fIx) (dTwo (vr 1) (cn (.int 2)) fIx) fMul) fSub) (aCons (dTwo (dTwo (vr 1) (cn (.int 1)) fIx) (dTwo (dTwo (vr 0) (cn (.int 1)) fIx) (dTwo (vr 1) (cn (.int 2)) fIx) fMul) fSub) (aNil))))
def m_steps_from : TFd := fnD 2 2 t_steps_from
theorem e_steps_from {a0 a1 : D} {S : Sto} {Q : DK} {E : EK} (k : t_steps_from [some a0, some a1] S ⟨fun _ S1 => Q .non S1, Q, fun _ _ => False, fun _ _ => False, fun x _ S1 => E x S1⟩) : m_steps_from [a0, a1] S Q E := ⟨rfl, k⟩
def t_side_height : TSd := sRet (dCall m_dot_of 2 0 (fun ds _ => ds) (aCons (dCall m_steps_from 2 0 (fun ds _ => ds) (aCons (dTwo (vr 0) (cn (.int 1)) fIx) (aCons (vr 1) (aNil))) aNil) (aCons (dCall m_outward 2 0 (fun ds _ => ds) (aCons (dTwo (vr 0) (cn (.int 1)) fIx) (aCons (dTwo (vr 0) (cn (.int 2)) fIx) (aNil))) aNil) (aNil))) aNil)
def m_side_height : TFd := fnD 2 2 t_side_height
theorem e_side_height {a0 a1 : D} {S : Sto} {Q : DK} {E : EK} (k : t_side_height [some a0, some a1] S ⟨fun _ S1 => Q .non S1, Q, fun _ _ => False, fun _ _ => False, fun x _ S1 => E x S1⟩) : m_side_height [a0, a1] S Q E := ⟨rfl, k⟩
def t_is_beside : TSd := sSeq (sAsg (dCall m_step_from 2 0 (fun ds _ => ds) (aCons (dTwo (vr 0) (cn (.int 2)) fIx) (aCons (dTwo (vr 0) (cn (.int 1)) fIx) (aNil))) aNil) (.nm 2)) (sRet (dChain (cn (.int 0)) (dCall m_dot_of 2 0 (fun ds _ => ds) (aCons (dCall m_steps_from 2 0 (fun ds _ => ds) (aCons (dTwo (vr 0) (cn (.int 1)) fIx) (aCons (vr 1) (aNil))) aNil) (aCons (vr 2) (aNil))) aNil) (dTwo (dCall m_dot_of 2 0 (fun ds _ => ds) (aCons (vr 2) (aCons (vr 2) (aNil))) aNil) (dTwo (vr 1) (cn (.int 2)) fIx) fMul) fLe fLe))
def m_is_beside : TFd := fnD 2 3 t_is_beside
theorem e_is_beside {a0 a1 : D} {S : Sto} {Q : DK} {E : EK} (k : t_is_beside [some a0, some a1, none] S ⟨fun _ S1 => Q .non S1, Q, fun _ _ => False, fun _ _ => False, fun x _ S1 => E x S1⟩) : m_is_beside [a0, a1] S Q E := ⟨rfl, k⟩
def t_l_bag : TSd := sSeq (sAsg (cn (.int 0)) (.nm 2)) (sSeq (sIf (tbl (dTwo (vr 1) (dB bLen (aCons (vr 0) (aNil))) fLt)) (sAsg (dTwo (vr 0) (vr 1) fIx) (.nm 2)) (sNx)) (sSeq (sAsg (cn (.int 0)) (.nm 3)) (sSeq (sIf (tbl (dTwo (dB bAbs (aCons (vr 2) (aNil))) (dTwo (cn (.int 10)) (cn (.int 18)) fPow) fGe)) (sAsg (dB bAbs (aCons (vr 2) (aNil))) (.nm 3)) (sNx)) (sSeq (sAsg (dLst (aCons (cn (.int 2147483629)) (aCons (cn (.int 2147483587)) (aCons (cn (.int 2147483579)) (aCons (cn (.int 2147483563)) (aCons (cn (.int 2147483549)) (aCons (cn (.int 2147483543)) (aCons (cn (.int 2147483497)) (aCons (cn (.int 2147483489)) (aNil)))))))))) (.nm 4)) (sRet (dLstR (aCons (vr 3) (aCons (dTwo (dTwo (dTwo (dTwo (dTwo (vr 2) (cn (.int 2147483647)) fMod) (dTwo (cn (.int 104729)) (vr 1) fMul) fAdd) (cn (.int 7)) fAdd) (cn (.int 5)) fPow) (dTwo (vr 4) (dTwo (vr 1) (cn (.int 8)) fMod) fIx) fMod) (aNil)))))))))
def m_l_bag : TFd := fnD 2 5 t_l_bag
theorem e_l_bag {a0 a1 : D} {S : Sto} {Q : DK} {E : EK} (k : t_l_bag [some a0, some a1, none, none, none] S ⟨fun _ S1 => Q .non S1, Q, fun _ _ => False, fun _ _ => False, fun x _ S1 => E x S1⟩) : m_l_bag [a0, a1] S Q E := ⟨rfl, k⟩
def t_l_take : TSd := sSeq (sIf (tbl (dTwo (dTwo (vr 0) (cn (.int 0)) fIx) (cn (.int 0)) fGt)) (sSeq (sAsg (dTwo (dTwo (vr 0) (cn (.int 0)) fIx) (vr 1) fMod) (.nm 2)) (sSeq (sSub (dTwo (dTwo (vr 0) (cn (.int 0)) fIx) (vr 1) fDiv) (vr 0) (cn (.int 0))) (sRet (vr 2)))) (sNx)) (sSeq (sSub (dTwo (dTwo (dTwo (dTwo (vr 0) (cn (.int 1)) fIx) (cn (.int 48271)) fMul) (cn (.int 11)) fAdd) (cn (.int 2147483647)) fMod) (vr 0) (cn (.int 1))) (sRet (dTwo (dTwo (dTwo (dTwo (dTwo (vr 0) (cn (.int 1)) fIx) (cn (.int 8)) fDiv) (cn (.int 3)) fPow) (cn (.int 2147483629)) fMod) (vr 1) fMod)))
def m_l_take : TFd := fnD 2 3 t_l_take
def t_l_turned : TSd := sSeq (sAsg (vr 0) (.tp (.nm 2 :: .nm 3 :: []))) (sSeq (sFor (iR1 (aCons (dTwo (vr 1) (cn (.int 4)) fMod) (aNil))) (.nm 4) (sPar [2, 3] (aCons (dTwo (cn (.int 0)) (vr 3) fSub) (aCons (vr 2) (aNil))))) (sRet (dTup (aCons (vr 2) (aCons (vr 3) (aNil))))))
def m_l_turned : TFd := fnD 2 5 t_l_turned
theorem e_l_turned {a0 a1 : D} {S : Sto} {Q : DK} {E : EK} (k : t_l_turned [some a0, some a1, none, none, none] S ⟨fun _ S1 => Q .non S1, Q, fun _ _ => False, fun _ _ => False, fun x _ S1 => E x S1⟩) : m_l_turned [a0, a1] S Q E := ⟨rfl, k⟩
def t_l_thing : TSd := sSeq (sPar [3, 4] (aCons (dTwo (cn (.int 1)) (dCall m_l_take 2 0 (fun ds _ => ds) (aCons (vr 0) (aCons (cn (.int 3)) (aNil))) aNil) fAdd) (aCons (dCall m_l_take 2 0 (fun ds _ => ds) (aCons (vr 0) (aCons (cn (.int 4)) (aNil))) aNil) (aNil)))) (sSeq (sAsg (dTup (aCons (dTwo (dCall m_l_take 2 0 (fun ds _ => ds) (aCons (vr 0) (aCons (dTwo (dTwo (cn (.int 2)) (vr 1) fMul) (cn (.int 1)) fAdd) (aNil))) aNil) (vr 1) fSub) (aCons (dTwo (dCall m_l_take 2 0 (fun ds _ => ds) (aCons (vr 0) (aCons (dTwo (dTwo (cn (.int 2)) (vr 1) fMul) (cn (.int 1)) fAdd) (aNil))) aNil) (vr 1) fSub) (aNil)))) (.nm 5)) (sSeq (sAsg (dLst (aCons (dTup (aCons (cn (.int 1)) (aCons (cn (.int 0)) (aNil)))) (aCons (dTup (aCons (cn (.int 2)) (aCons (cn (.int 0)) (aNil)))) (aCons (dTup (aCons (cn (.int 3)) (aCons (cn (.int 4)) (aNil)))) (aCons (dTup (aCons (cn (.int 4)) (aCons (cn (.int 3)) (aNil)))) (aCons (dTup (aCons (cn (.int 5)) (aCons (cn (.int 12)) (aNil)))) (aCons (dTup (aCons (cn (.int 12)) (aCons (cn (.int 5)) (aNil)))) (aCons (dTup (aCons (cn (.int 8)) (aCons (cn (.int 15)) (aNil)))) (aCons (dTup (aCons (cn (.int 9)) (aCons (cn (.int 0)) (aNil)))) (aNil)))))))))) (.nm 6)) (sSeq (sAsg (dLst (aCons (dTup (aCons (dTup (aCons (cn (.int 1)) (aCons (cn (.int 0)) (aNil)))) (aCons (dTup (aCons (dNeg (cn (.int 1))) (aCons (cn (.int 0)) (aNil)))) (aNil)))) (aCons (dTup (aCons (dTup (aCons (cn (.int 3)) (aCons (cn (.int 4)) (aNil)))) (aCons (dTup (aCons (dNeg (cn (.int 3))) (aCons (cn (.int 4)) (aNil)))) (aNil)))) (aCons (dTup (aCons (dTup (aCons (cn (.int 4)) (aCons (cn (.int 3)) (aNil)))) (aCons (dTup (aCons (dNeg (cn (.int 4))) (aCons (cn (.int 3)) (aNil)))) (aNil)))) (aCons (dTup (aCons (dTup (aCons (cn (.int 5)) (aCons (cn (.int 12)) (aNil)))) (aCons (dTup (aCons (dNeg (cn (.int 5))) (aCons (cn (.int 12)) (aNil)))) (aNil)))) (aCons (dTup (aCons (dTup (aCons (cn (.int 12)) (aCons (cn (.int 5)) (aNil)))) (aCons (dTup (aCons (dNeg (cn (.int 12))) (aCons (cn (.int 5)) (aNil)))) (aNil)))) (aNil))))))) (.nm 7)) (sSeq (sAsg (dTwo (vr 7) (dLst (aCons (dTup (aCons (dTup (aCons (cn (.int 25)) (aCons (cn (.int 0)) (aNil)))) (aCons (dTup (aCons (cn (.int 7)) (aCons (cn (.int 24)) (aNil)))) (aNil)))) (aCons (dTup (aCons (dTup (aCons (cn (.int 25)) (aCons (cn (.int 0)) (aNil)))) (aCons (dTup (aCons (dNeg (cn (.int 7))) (aCons (cn (.int 24)) (aNil)))) (aNil)))) (aCons (dTup (aCons (dTup (aCons (cn (.int 3)) (aCons (cn (.int 4)) (aNil)))) (aCons (dTup (aCons (dNeg (cn (.int 3))) (aCons (dNeg (cn (.int 4))) (aNil)))) (aNil)))) (aCons (dTup (aCons (dTup (aCons (cn (.int 24)) (aCons (cn (.int 7)) (aNil)))) (aCons (dTup (aCons (dNeg (cn (.int 24))) (aCons (cn (.int 7)) (aNil)))) (aNil)))) (aNil)))))) fCat) (.nm 7)) (sSeq (sIf (tbl (dTwo (vr 2) (cn (.int 2)) fLt)) (sRet (dTup (aCons (cn (.str "spot")) (aCons (vr 5) (aNil))))) (sNx)) (sSeq (sAsg (dLst (aCons (dTwo (vr 6) (dCall m_l_take 2 0 (fun ds _ => ds) (aCons (vr 0) (aCons (cn (.int 8)) (aNil))) aNil) fIx) (aNil))) (.nm 8)) (sSeq (sIf (tbl (dTwo (vr 2) (cn (.int 4)) fGt)) (sAsg (dB bLst (aCons (dTwo (vr 7) (dCall m_l_take 2 0 (fun ds _ => ds) (aCons (vr 0) (aCons (cn (.int 9)) (aNil))) aNil) fIx) (aNil))) (.nm 8)) (sNx)) (sSeq (sAsg (dLstR (aNil)) (.nm 9)) (sSeq (sFor (iVal (vr 8)) (.nm 10) (sSeq (sAsg (dCall m_l_turned 2 0 (fun ds _ => ds) (aCons (dTup (aCons (dTwo (dTwo (vr 10) (cn (.int 0)) fIx) (vr 3) fMul) (aCons (dTwo (dTwo (vr 10) (cn (.int 1)) fIx) (vr 3) fMul) (aNil)))) (aCons (vr 4) (aNil))) aNil) (.tp (.nm 11 :: .nm 12 :: []))) (sDrop (dLm gApp (vr 9) (aCons (dTup (aCons (dTwo (dTwo (vr 5) (cn (.int 0)) fIx) (vr 11) fAdd) (aCons (dTwo (dTwo (vr 5) (cn (.int 1)) fIx) (vr 12) fAdd) (aNil)))) (aNil)))))) (sSeq (sIf (tbl (dTwo (vr 2) (cn (.int 5)) fLt)) (sRet (dTup (aCons (cn (.str "cord")) (aCons (vr 5) (aCons (dTwo (vr 9) (cn (.int 0)) fIx) (aNil)))))) (sNx)) (sRet (dTup (aCons (cn (.str "bow")) (aCons (vr 5) (aCons (dTwo (vr 9) (cn (.int 0)) fIx) (aCons (dTwo (vr 9) (cn (.int 1)) fIx) (aNil)))))))))))))))))
def m_l_thing : TFd := fnD 3 13 t_l_thing
theorem e_l_thing {a0 a1 a2 : D} {S : Sto} {Q : DK} {E : EK} (k : t_l_thing [some a0, some a1, some a2, none, none, none, none, none, none, none, none, none, none] S ⟨fun _ S1 => Q .non S1, Q, fun _ _ => False, fun _ _ => False, fun x _ S1 => E x S1⟩) : m_l_thing [a0, a1, a2] S Q E := ⟨rfl, k⟩
def t_l_low : TSd := sSeq (sPar [2, 3] (aCons (dB bAbs (aCons (vr 0) (aNil))) (aCons (vr 1) (aNil)))) (sSeq (sWhile (tbl (dTwo (vr 2) (cn (.int 0)) fGt)) (sPar [2, 3] (aCons (dTwo (vr 3) (vr 2) fMod) (aCons (vr 2) (aNil))))) (sRet (dTup (aCons (dTwo (vr 0) (vr 3) fDiv) (aCons (dTwo (vr 1) (vr 3) fDiv) (aNil))))))
def m_l_low : TFd := fnD 2 4 t_l_low
def t_l_sum : TSd := sRet (dCall m_l_low 2 0 (fun ds _ => ds) (aCons (dTwo (dTwo (dTwo (vr 0) (cn (.int 0)) fIx) (dTwo (vr 1) (cn (.int 1)) fIx) fMul) (dTwo (dTwo (vr 1) (cn (.int 0)) fIx) (dTwo (vr 0) (cn (.int 1)) fIx) fMul) fAdd) (aCons (dTwo (dTwo (vr 0) (cn (.int 1)) fIx) (dTwo (vr 1) (cn (.int 1)) fIx) fMul) (aNil))) aNil)
def m_l_sum : TFd := fnD 2 2 t_l_sum
theorem e_l_sum {a0 a1 : D} {S : Sto} {Q : DK} {E : EK} (k : t_l_sum [some a0, some a1] S ⟨fun _ S1 => Q .non S1, Q, fun _ _ => False, fun _ _ => False, fun x _ S1 => E x S1⟩) : m_l_sum [a0, a1] S Q E := ⟨rfl, k⟩
def t_l_rooted : TSd := sSeq (sIf (tbl (dTwo (vr 0) (cn (.int 0)) fEq)) (sRet (cn (.int 0))) (sNx)) (sSeq (sAsg (dTwo (cn (.int 1)) (dTwo (dTwo (dBits (vr 0)) (cn (.int 1)) fAdd) (cn (.int 2)) fDiv) fShl) (.nm 1)) (sSeq (sWhile (tbl (dTwo (dTwo (vr 1) (vr 1) fMul) (vr 0) fGt)) (sAsg (dTwo (dTwo (vr 1) (dTwo (vr 0) (vr 1) fDiv) fAdd) (cn (.int 2)) fDiv) (.nm 1))) (sRet (vr 1))))
def m_l_rooted : TFd := fnD 1 2 t_l_rooted
def t_l_root : TSd := sSeq (sPar [2, 3] (aCons (dCall m_l_rooted 1 0 (fun ds _ => ds) (aCons (dTwo (vr 1) (cn (.int 0)) fIx) (aNil)) aNil) (aCons (dCall m_l_rooted 1 0 (fun ds _ => ds) (aCons (dTwo (vr 1) (cn (.int 1)) fIx) (aNil)) aNil) (aNil)))) (sSeq (sIf (tAndD (tbl (dTwo (dTwo (vr 2) (vr 2) fMul) (dTwo (vr 1) (cn (.int 0)) fIx) fEq)) (tbl (dTwo (dTwo (vr 3) (vr 3) fMul) (dTwo (vr 1) (cn (.int 1)) fIx) fEq))) (sRet (dTup (aCons (dCall m_l_low 2 0 (fun ds _ => ds) (aCons (dTwo (dTwo (vr 0) (vr 3) fMul) (vr 2) fAdd) (aCons (vr 3) (aNil))) aNil) (aCons (cn (.int 0)) (aCons (dTup (aCons (cn (.int 0)) (aCons (cn (.int 1)) (aNil)))) (aNil)))))) (sNx)) (sRet (dTup (aCons (dTup (aCons (vr 0) (aCons (cn (.int 1)) (aNil)))) (aCons (cn (.int 1)) (aCons (vr 1) (aNil)))))))
def m_l_root : TFd := fnD 2 4 t_l_root
theorem e_l_root {a0 a1 : D} {S : Sto} {Q : DK} {E : EK} (k : t_l_root [some a0, some a1, none, none] S ⟨fun _ S1 => Q .non S1, Q, fun _ _ => False, fun _ _ => False, fun x _ S1 => E x S1⟩) : m_l_root [a0, a1] S Q E := ⟨rfl, k⟩
def t_l_steps : TSd := sSeq (sAsg (vr 1) (.tp (.tp (.nm 2 :: .nm 3 :: []) :: .tp (.nm 4 :: .nm 5 :: []) :: []))) (sRet (dTup (aCons (dTwo (dTwo (vr 2) (vr 5) fMul) (dTwo (dTwo (dTwo (vr 0) (cn (.int 0)) fIx) (vr 3) fMul) (vr 5) fMul) fSub) (aCons (dTwo (dTwo (vr 4) (vr 3) fMul) (dTwo (dTwo (dTwo (vr 0) (cn (.int 1)) fIx) (vr 3) fMul) (vr 5) fMul) fSub) (aCons (dTwo (vr 3) (vr 5) fMul) (aNil))))))
def m_l_steps : TFd := fnD 2 6 t_l_steps
theorem e_l_steps {a0 a1 : D} {S : Sto} {Q : DK} {E : EK} (k : t_l_steps [some a0, some a1, none, none, none, none] S ⟨fun _ S1 => Q .non S1, Q, fun _ _ => False, fun _ _ => False, fun x _ S1 => E x S1⟩) : m_l_steps [a0, a1] S Q E := ⟨rfl, k⟩
def t_l_dot : TSd := sRet (dTwo (dTwo (dTwo (vr 0) (cn (.int 0)) fIx) (dTwo (vr 1) (cn (.int 0)) fIx) fMul) (dTwo (dTwo (vr 0) (cn (.int 1)) fIx) (dTwo (vr 1) (cn (.int 1)) fIx) fMul) fAdd)
def m_l_dot : TFd := fnD 2 2 t_l_dot
theorem e_l_dot {a0 a1 : D} {S : Sto} {Q : DK} {E : EK} (k : t_l_dot [some a0, some a1] S ⟨fun _ S1 => Q .non S1, Q, fun _ _ => False, fun _ _ => False, fun x _ S1 => E x S1⟩) : m_l_dot [a0, a1] S Q E := ⟨rfl, k⟩
def t_l_cross : TSd := sRet (dTwo (dTwo (dTwo (vr 0) (cn (.int 0)) fIx) (dTwo (vr 1) (cn (.int 1)) fIx) fMul) (dTwo (dTwo (vr 0) (cn (.int 1)) fIx) (dTwo (vr 1) (cn (.int 0)) fIx) fMul) fSub)
def m_l_cross : TFd := fnD 2 2 t_l_cross
theorem e_l_cross {a0 a1 : D} {S : Sto} {Q : DK} {E : EK} (k : t_l_cross [some a0, some a1] S ⟨fun _ S1 => Q .non S1, Q, fun _ _ => False, fun _ _ => False, fun x _ S1 => E x S1⟩) : m_l_cross [a0, a1] S Q E := ⟨rfl, k⟩
def t_l_minus : TSd := sRet (dTup (aCons (dTwo (dTwo (vr 0) (cn (.int 0)) fIx) (dTwo (vr 1) (cn (.int 0)) fIx) fSub) (aCons (dTwo (dTwo (vr 0) (cn (.int 1)) fIx) (dTwo (vr 1) (cn (.int 1)) fIx) fSub) (aNil))))
def m_l_minus : TFd := fnD 2 2 t_l_minus
theorem e_l_minus {a0 a1 : D} {S : Sto} {Q : DK} {E : EK} (k : t_l_minus [some a0, some a1] S ⟨fun _ S1 => Q .non S1, Q, fun _ _ => False, fun _ _ => False, fun x _ S1 => E x S1⟩) : m_l_minus [a0, a1] S Q E := ⟨rfl, k⟩
def t_l_by_cord : TSd := sSeq (sAsg (dCall m_l_steps 2 0 (fun ds _ => ds) (aCons (vr 0) (aCons (vr 2) (aNil))) aNil) (.tp (.nm 3 :: .nm 4 :: .nm 5 :: []))) (sSeq (sAsg (dCall m_l_minus 2 0 (fun ds _ => ds) (aCons (vr 1) (aCons (vr 0) (aNil))) aNil) (.nm 6)) (sSeq (sPar [7, 8] (aCons (dCall m_l_dot 2 0 (fun ds _ => ds) (aCons (vr 6) (aCons (vr 6) (aNil))) aNil) (aCons (dCall m_l_dot 2 0 (fun ds _ => ds) (aCons (dTup (aCons (vr 3) (aCons (vr 4) (aNil)))) (aCons (vr 6) (aNil))) aNil) (aNil)))) (sSeq (sIf (tbl (dTwo (vr 8) (cn (.int 0)) fLe)) (sRet (dCall m_l_low 2 0 (fun ds _ => ds) (aCons (dTwo (dTwo (vr 3) (vr 3) fMul) (dTwo (vr 4) (vr 4) fMul) fAdd) (aCons (dTwo (vr 5) (vr 5) fMul) (aNil))) aNil)) (sNx)) (sSeq (sIf (tbl (dTwo (vr 8) (dTwo (vr 7) (vr 5) fMul) fGe)) (sSeq (sAsg (dCall m_l_steps 2 0 (fun ds _ => ds) (aCons (vr 1) (aCons (vr 2) (aNil))) aNil) (.tp (.nm 3 :: .nm 4 :: .nm 5 :: []))) (sRet (dCall m_l_low 2 0 (fun ds _ => ds) (aCons (dTwo (dTwo (vr 3) (vr 3) fMul) (dTwo (vr 4) (vr 4) fMul) fAdd) (aCons (dTwo (vr 5) (vr 5) fMul) (aNil))) aNil))) (sNx)) (sRet (dCall m_l_low 2 0 (fun ds _ => ds) (aCons (dTwo (dCall m_l_cross 2 0 (fun ds _ => ds) (aCons (dTup (aCons (vr 3) (aCons (vr 4) (aNil)))) (aCons (vr 6) (aNil))) aNil) (cn (.int 2)) fPow) (aCons (dTwo (dTwo (vr 7) (vr 5) fMul) (vr 5) fMul) (aNil))) aNil))))))
def m_l_by_cord : TFd := fnD 3 9 t_l_by_cord
theorem e_l_by_cord {a0 a1 a2 : D} {S : Sto} {Q : DK} {E : EK} (k : t_l_by_cord [some a0, some a1, some a2, none, none, none, none, none, none] S ⟨fun _ S1 => Q .non S1, Q, fun _ _ => False, fun _ _ => False, fun x _ S1 => E x S1⟩) : m_l_by_cord [a0, a1, a2] S Q E := ⟨rfl, k⟩
end Ld

namespace Ld
open PySem PySem.Spec PyProof.Rows L2 Bl Lb
/-! ### places, and how far they are -/
abbrev R2 := Rat × Rat
abbrev plD (P : R2) : D := .tup [fr P.1, fr P.2]
def toR (p : P2) : R2 := ((p.1 : Rat), (p.2 : Rat))
def difR (P : R2) (p : P2) : R2 := (P.1 - p.1, P.2 - p.2)
def dotR (u : R2) (v : P2) : Rat := u.1 * v.1 + u.2 * v.2
def crsR (u : R2) (v : P2) : Rat := u.1 * v.2 - u.2 * v.1
def nrm (u : R2) : Rat := u.1 * u.1 + u.2 * u.2
structure PR (n : Nat) (P : R2) : Prop where
  x : sr n P.1
  y : sr n P.2
/-- a place in whole numbers -/
structure Wp (n : Nat) (P : R2) (X Y B : Int) : Prop where
  b0 : 0 < B
  ex : (X : Rat) = P.1 * B
  ey : (Y : Rat) = P.2 * B
  sx : sm n X
  sy : sm n Y
  sb : sm n B
abbrev wpD (X Y B : Int) : D := .tup [.int X, .int Y, .int B]
/-- a place or a point -/
inductive Pl : D → R2 → Prop
  | place (P : R2) : Pl (plD P) P
  | point (p : P2) : Pl (pt p) (toR p)
/-! steps in whole numbers: the number times the steps -/
structure Stp (n : Nat) (P : R2) (p : P2) (u : P2) (B : Int) : Prop where
  b0 : 0 < B
  ex : (u.1 : Rat) = B * (difR P p).1
  ey : (u.2 : Rat) = B * (difR P p).2
  s1 : sm n u.1
  s2 : sm n u.2
theorem steps_from_spec {P : R2} {p : P2} {n : Nat} {X Y B : Int} {S : Sto} {Q : DK} {E : EK} (w : Wp n P X Y B) (hp : Bd p) (hn : n ≤ 3000) (k : ∀ u, Stp (n + 11) P p u B → Q (pt u) S) : m_steps_from [pt p, wpD X Y B] S Q E := by
  refine e_steps_from ?_
  unfold t_steps_from
  have p1 : sm 10 p.1 := sm_of_le hp.1 (by decide)
  have p2 : sm 10 p.2 := sm_of_le hp.2 (by decide)
  walk_at "bl"
  refine Go.mul (p1.cmul w.sb (by omega)) ?_
  walk_at "bl"
  refine Go.mul (p2.cmul w.sb (by omega)) ?_
  walk_at "bl"
  refine k (X - p.1 * B, Y - p.2 * B) ⟨w.b0, ?_, ?_, ?_, ?_⟩
  · have := w.ex
    unfold difR
    simp only [Rat.intCast_sub, Rat.intCast_mul]
    grind
  · have := w.ey
    unfold difR
    simp only [Rat.intCast_sub, Rat.intCast_mul]
    grind
  · exact ((w.sx.mono (by omega : n ≤ n + 10)).sub ((p1.mul w.sb).mono (by omega))).mono (by omega)
  · exact ((w.sy.mono (by omega : n ≤ n + 10)).sub ((p2.mul w.sb).mono (by omega))).mono (by omega)
/-! signs -/
section
variable {i B : Int} {r : Rat}
theorem sc_pos (hB : 0 < B) (e : (i : Rat) = B * r) : 0 < i ↔ 0 < r := by
  rw [← Rat.intCast_pos, e]
  exact Rat.mul_pos_iff_of_pos_left (Rat.intCast_pos.mpr hB)
theorem sc_neg (hB : 0 < B) (e : (i : Rat) = B * r) : i < 0 ↔ r < 0 := by
  rw [← Rat.intCast_neg_iff, e]
  exact Rat.mul_neg_iff_of_pos_left (Rat.intCast_pos.mpr hB)
theorem sc_nonneg (hB : 0 < B) (e : (i : Rat) = B * r) : 0 ≤ i ↔ 0 ≤ r := by
  rw [← Int.not_lt, ← Rat.not_lt, sc_neg hB e]
theorem sc_nonpos (hB : 0 < B) (e : (i : Rat) = B * r) : i ≤ 0 ↔ r ≤ 0 := by
  rw [← Int.not_lt, ← Rat.not_lt, sc_pos hB e]
theorem sc_zero (hB : 0 < B) (e : (i : Rat) = B * r) : i = 0 ↔ r = 0 := by
  rw [← Rat.intCast_eq_zero_iff, e, Rat.mul_eq_zero]
  exact ⟨fun h => h.elim (fun z => absurd (Rat.intCast_eq_zero_iff.mp z) (by omega)) id, .inr⟩
end
theorem Stp.dot {n : Nat} {P : R2} {p u v : P2} {B : Int} (h : Stp n P p u B) : (dot u v : Rat) = B * dotR (difR P p) v := by
  have e1 := h.ex
  have e2 := h.ey
  unfold Lb.dot dotR
  simp only [Rat.intCast_mul, Rat.intCast_add]
  grind
theorem Stp.crs {n : Nat} {P : R2} {p u v : P2} {B : Int} (h : Stp n P p u B) : (crs u v : Rat) = B * crsR (difR P p) v := by
  have e1 := h.ex
  have e2 := h.ey
  unfold Lb.crs crsR
  simp only [Rat.intCast_mul, Rat.intCast_sub]
  grind
theorem crs_flip (a b : P2) : crs a b = - crs b a := by
  unfold Lb.crs
  grind
theorem Stp.nrm {n : Nat} {P : R2} {p u : P2} {B : Int} (h : Stp n P p u B) : (Lb.dot u u : Rat) = (B * B : Int) * nrm (difR P p) := by
  have e1 := h.ex
  have e2 := h.ey
  unfold Lb.dot Ld.nrm
  simp only [Rat.intCast_mul, Rat.intCast_add]
  grind
/-! whether a place lies on a spoke of a face -/
def heightR (P : R2) (a b : P2) : Rat := dotR (difR P a) (outw a b)
def besideR (P : R2) (a b : P2) : Prop := 0 ≤ dotR (difR P a) (dif b a) ∧ dotR (difR P a) (dif b a) ≤ dot (dif b a) (dif b a)
instance (P : R2) (a b : P2) : Decidable (besideR P a b) := by unfold besideR; infer_instance
def outR (u : R2) (f l : P2) : Prop := f = l ∨ (crsR u f ≤ 0 ∧ 0 ≤ crsR u l)
instance (u : R2) (f l : P2) : Decidable (outR u f l) := by unfold outR; infer_instance
def spokedR (P : R2) : Fc → Prop
  | .side a b => 0 < heightR P a b ∧ besideR P a b
  | .round c r f l => ¬ nrm (difR P c) ≤ ((r * r : Int) : Rat) ∧ outR (difR P c) f l
instance (P : R2) (f : Fc) : Decidable (spokedR P f) := by cases f <;> (unfold spokedR; infer_instance)
theorem side_height_spec {P : R2} {a b : P2} {n : Nat} {X Y B : Int} {S : Sto} {Q : DK} {E : EK} (w : Wp n P X Y B) (hf : FcGood 12 (.side a b)) (hn : n ≤ 2900) (k : ∀ h : Int, (h : Rat) = B * heightR P a b → sm (2 * n + 40) h → Q (.int h) S) : m_side_height [fcD (.side a b), wpD X Y B] S Q E := by
  obtain ⟨hne, ha, hb, hw⟩ := hf
  refine e_side_height ?_
  unfold t_side_height fcD
  walk_at "bl"
  refine steps_from_spec w ha (by omega) fun u hu => ?_
  walk_at "bl"
  refine outward_spec hne ha hb ?_
  have o := outw_ok hne ha hb hw
  walk_at "bl"
  refine dot_spec (n := n + 12) (hu.s1.mono (by omega)) (hu.s2.mono (by omega)) (o.s1.mono (by omega)) (o.s2.mono (by omega)) (by omega) ?_
  exact k _ hu.dot ((sm_dot (n := n + 12) (hu.s1.mono (by omega)) (hu.s2.mono (by omega)) (o.s1.mono (by omega)) (o.s2.mono (by omega))).mono (by omega))
theorem is_beside_spec {P : R2} {a b : P2} {n : Nat} {X Y B : Int} {S : Sto} {Q : DK} {E : EK} (w : Wp n P X Y B) (ha : Bd a) (hb : Bd b) (hn : n ≤ 2900) (k : Q (.bl (decide (besideR P a b))) S) : m_is_beside [fcD (.side a b), wpD X Y B] S Q E := by
  refine e_is_beside ?_
  unfold t_is_beside fcD
  obtain ⟨s1, s2⟩ := sm_dif hb ha
  walk_at "bl"
  refine step_spec ?_
  walk_at "bl"
  refine steps_from_spec w ha (by omega) fun u hu => ?_
  walk_at "bl"
  refine dot_spec (n := n + 12) (hu.s1.mono (by omega)) (hu.s2.mono (by omega)) (s1.mono (by omega)) (s2.mono (by omega)) (by omega) ?_
  have e := hu.dot (v := dif b a)
  walk_at "bl"
  have g0 := sc_nonneg w.b0 e
  by_cases h0 : 0 ≤ dot u (dif b a)
  · rw [decide_eq_true h0]
    show (dTwo (dCall m_dot_of 2 0 (fun ds _ => ds) (aCons (vr 2) (aCons (vr 2) (aNil))) aNil) (dTwo (vr 1) (cn (.int 2)) fIx) fMul) _ _ _ _
    walk_at "bl"
    refine dot_spec (n := 12) s1 s2 s1 s2 (by omega) ?_
    walk_at "bl"
    refine Go.mul ((sm_dot s1 s2 s1 s2).cmul w.sb (by omega)) ?_
    walk_at "bl"
    have e2 : ((dot (dif b a) (dif b a) * B - dot u (dif b a) : Int) : Rat) = B * ((dot (dif b a) (dif b a) : Rat) - dotR (difR P a) (dif b a)) := by
      simp only [Rat.intCast_sub, Rat.intCast_mul]
      rw [e]
      grind
    have g1 := sc_nonneg w.b0 e2
    have : decide (dot u (dif b a) ≤ dot (dif b a) (dif b a) * B) = decide (besideR P a b) := by
      rw [decide_eq_decide]
      unfold besideR
      rw [← g0]
      have g2 : dotR (difR P a) (dif b a) ≤ (dot (dif b a) (dif b a) : Rat) ↔ 0 ≤ (dot (dif b a) (dif b a) : Rat) - dotR (difR P a) (dif b a) := Rat.le_iff_sub_nonneg _ _
      rw [g2, ← g1]
      omega
    rw [this]
    exact k
  · rw [decide_eq_false h0]
    have : decide (besideR P a b) = false := decide_eq_false fun z => h0 (g0.mpr z.1)
    rw [this] at k
    exact k
theorem is_out_spec {u : P2} {c f l : P2} {r : Int} {n : Nat} {S : Sto} {Q : DK} {E : EK} (f1 : sm n f.1) (f2 : sm n f.2) (l1 : sm n l.1) (l2 : sm n l.2) (u1 : sm n u.1) (u2 : sm n u.2) (hn : n ≤ 4000) (k : Q (.bl (decide (f = l ∨ (0 ≤ crs f u ∧ 0 ≤ crs u l)))) S) : m_is_out [fcD (.round c r f l), pt u] S Q E := by
  refine e_is_out ?_
  unfold t_is_out fcD
  walk_at "bl"
  refine eq_pt ?_
  walk_at "bl"
  refine Go.ifD (fun h => ?_) fun h => ?_
  · walk_at "bl"
    rw [decide_eq_true (.inl h)] at k
    exact k
  walk_at "bl"
  refine cross_spec f1 f2 u1 u2 hn ?_
  walk_at "bl"
  refine Go.ifD (fun h1 => ?_) fun h1 => ?_
  · walk_at "bl"
    refine cross_spec u1 u2 l1 l2 hn ?_
    walk_at "bl"
    have : decide (0 ≤ crs u l) = decide (f = l ∨ (0 ≤ crs f u ∧ 0 ≤ crs u l)) := by
      rw [decide_eq_decide]
      exact ⟨fun z => .inr ⟨h1, z⟩, fun z => z.elim (fun z => absurd z h) (·.2)⟩
    rw [this]
    exact k
  · walk_at "bl"
    rw [decide_eq_false (fun z => z.elim h fun z => h1 z.1)] at k
    exact k
/-! the faces at a place -/
def idxF (P : R2) : Int → List Fc → List Int
  | _, [] => []
  | i, f :: fs => if spokedR P f then i :: idxF P (i + 1) fs else idxF P (i + 1) fs
end Ld

namespace Ld
open PySem PySem.Spec PyProof.Rows L2 Bl Lb
/-! ### how far a place is out of a face, and the distance -/
def fdR (P : R2) : Fc → Rt
  | .side a b => ⟨heightR P a b / (lenq (outw a b) : Int), 0, 0⟩
  | .round c r _ _ => canon ((0 - r : Int) : Rat) 1 (nrm (difR P c))
theorem nrm_nonneg (u : R2) : 0 ≤ nrm u := by
  have := sq_nonneg u.1
  have := sq_nonneg u.2
  unfold nrm
  grind
theorem from_frac_spec {r : Rat} {S : Sto} {Q : DK} {E : EK} (k : Q (rt ⟨r, 0, 0⟩) S) : m_from_frac [fr r] S Q E := by
  refine e_from_frac ?_
  unfold t_from_frac
  walk_at "bl"
  exact k
def firstR (t : Th) (P : R2) : Option Fc := (facesL t).find? (fun f => decide (spokedR P f))
def distR (t : Th) (P : R2) : Rt := match firstR t P with
  | none => ⟨0, 0, 0⟩
  | some f => fdR P f
end Ld

namespace Ld
open PySem PySem.Spec PyProof.Rows L2 Bl Lb
/-! ### what the laws draw by -/
theorem powG {i j : Int} {n m : Nat} {S : Sto} {Q : DK} (h : sm n i) (e : j = m) (hm : (n + 1) * m ≤ 2 ^ 27) (k : Q (.int (i ^ m)) S) : fPow (.int i) (.int j) S Q := by
  subst e
  have := h.bits
  refine ⟨by omega, ?_, by rw [Int.toNat_natCast]; exact k⟩
  have z : Builtin.Int.intBits i * m ≤ (n + 1) * m := Nat.mul_le_mul_right _ this
  have : (Builtin.Int.intBits i : Int) * (m : Int) = ((Builtin.Int.intBits i * m : Nat) : Int) := by rw [Int.natCast_mul]
  omega
theorem take_spec {a : Addr} {many : Int} {S : Sto} {Q : DK} {E : EK} (hb : Bg S a) (h0 : 0 < many) (h1 : sm 9000 many) (k : ∀ d S', 0 ≤ d → d < many → Bg S' a → Fr S S' a → Q (.int d) S') : m_l_take [.ref a, .int many] S Q E := by
  obtain ⟨c, m, e, hc, hm, hm2⟩ := hb
  unfold m_l_take t_l_take
  simp only [e, fnD, sNx, sSeq, sRet, sRetN, sDrop, sIf, sBrk, sCnt, sAsg, sPar, sAug, sSub, setD, sThru, asgT, asgL, itemsOf, vr, cn, dTwo, tbl, ttr, truD_bl, truD_int, truD_non, truD_tup, truD_lst, truD_str, truD_ref, tAndD, tOrD, tNotD, vOf, eIf, vNot, dNeg, fAdd_int, fAdd_tup, fSub, fMul, fDiv, fMod, fPow, fShl, fLt, fLe, fGt, fGe, fEq, fNe, fIx_tup, fIx_lst, fIx_ref, aNil, aCons, dTup, dLst, dLstR, dB, bAbs, bLen_tup, bLen_lst, bLen_ref, bMax, bMin, bInt_int, bInt_bl, dBits, dCall, iVal, iR1, iR2, List.map_cons, List.map_nil, List.length_cons, List.length_nil, List.replicate, List.cons_append, List.nil_append, List.append_nil, List.set, List.getElem?_cons_zero, List.getElem?_cons_succ, List.getElem?_nil, atI_0, atI_1, atI_2, ix20, ix21, sup_same, Nat.reduceAdd, Nat.reduceSub, Nat.succ_eq_add_one, decide_eq_true_eq, Bool.not_eq_true', decide_eq_false_iff_not, true_and, and_true, Bool.true_eq_false, Bool.false_eq_true, if_true, if_false, reduceCtorEq]
  split
  · rename_i hc0
    exact ⟨by omega, h1.cdiv (by omega) (by omega), k _ _ (fmod_pos h0).1 (fmod_pos h0).2 ⟨_, _, sup_same, fdiv_nonneg h0 hc, hm, hm2⟩ Fr.sup⟩
  · have g := fmod_pos (a := m * 48271 + 11) (b := 2147483647) (by omega)
    refine ⟨(sm.of (n := 32) (by omega)).cmul (sm.of (n := 32) (by decide)) (by decide), by decide, ⟨by decide, by decide⟩, by decide, ?_, by decide, by omega, k _ _ (fmod_pos h0).1 (fmod_pos h0).2 ⟨_, _, sup_same, hc, g.1, by omega⟩ Fr.sup⟩
    have z := (sm.of (n := 31) (i := ((m * 48271 + 11).fmod 2147483647).fdiv 8) (by rw [Int.fdiv_eq_ediv_of_nonneg _ (by decide)]; omega)).bits
    omega
theorem primes {d : Int} (h0 : 0 ≤ d) (h1 : d < 8) : ∃ p : Int, 0 < p ∧ p < 2147483648 ∧ atI [D.int 2147483629, .int 2147483587, .int 2147483579, .int 2147483563, .int 2147483549, .int 2147483543, .int 2147483497, .int 2147483489] d = some (.int p) := by
  rcases (by omega : d = (0 : Nat) ∨ d = (1 : Nat) ∨ d = (2 : Nat) ∨ d = (3 : Nat) ∨ d = (4 : Nat) ∨ d = (5 : Nat) ∨ d = (6 : Nat) ∨ d = (7 : Nat)) with h | h | h | h | h | h | h | h <;> subst h <;> exact ⟨_, by decide, by decide, atI_nat rfl⟩
theorem bag_spec {ns : List Int} {i : Int} {S : Sto} {Q : DK} {E : EK} (h : 0 ≤ i) (h2 : i < 10000) (k : ∀ a S', S a = none → Bg S' a → Fr S S' a → Q (.ref a) S') : m_l_bag [.lst (ns.map D.int), .int i] S Q E := by
  refine e_l_bag ?_
  unfold t_l_bag
  have fin : ∀ c : Int, (sSeq (sAsg (cn (.int 0)) (.nm 3)) (sSeq (sIf (tbl (dTwo (dB bAbs (aCons (vr 2) (aNil))) (dTwo (cn (.int 10)) (cn (.int 18)) fPow) fGe)) (sAsg (dB bAbs (aCons (vr 2) (aNil))) (.nm 3)) (sNx)) (sSeq (sAsg (dLst (aCons (cn (.int 2147483629)) (aCons (cn (.int 2147483587)) (aCons (cn (.int 2147483579)) (aCons (cn (.int 2147483563)) (aCons (cn (.int 2147483549)) (aCons (cn (.int 2147483543)) (aCons (cn (.int 2147483497)) (aCons (cn (.int 2147483489)) (aNil)))))))))) (.nm 4)) (sRet (dLstR (aCons (vr 3) (aCons (dTwo (dTwo (dTwo (dTwo (dTwo (vr 2) (cn (.int 2147483647)) fMod) (dTwo (cn (.int 104729)) (vr 1) fMul) fAdd) (cn (.int 7)) fAdd) (cn (.int 5)) fPow) (dTwo (vr 4) (dTwo (vr 1) (cn (.int 8)) fMod) fIx) fMod) (aNil)))))))) [some (.lst (ns.map D.int)), some (.int i), some (.int c), none, none] S ⟨fun _ S1 => Q .non S1, Q, fun _ _ => False, fun _ _ => False, fun x _ S1 => E x S1⟩ := fun c => by
    have gc := fmod_pos (a := c) (b := 2147483647) (by decide)
    have gi := fmod_pos (a := i) (b := 8) (by decide)
    walk_at "bl"
    refine powG (n := 4) (m := 18) (sm.of (n := 4) (by decide)) rfl (by decide) ?_
    walk_at "bl"
    refine Go.ifD (fun hk => ?_) fun hk => ?_
    · have hg : 0 ≤ (if c < 0 then -c else c) := by split <;> omega
      walk_at "bl"
      refine Go.mod (by decide) ?_
      walk_at "bl"
      refine Go.mul ((sm.of (n := 17) (by decide)).cmul (sm.of (n := 14) (by omega)) (by decide)) ?_
      walk_at "bl"
      refine powG (n := 40) (m := 5) (by unfold sm; omega) rfl (by decide) ?_
      walk_at "bl"
      refine Go.mod (by decide) ?_
      obtain ⟨p, p0, p1, ep⟩ := primes gi.1 gi.2
      walk_at "bl"
      refine Go.ixL ep ?_
      walk_at "bl"
      refine Go.mod (by omega) ?_
      walk_at "bl"
      refine Go.lstRK' rfl fun a ha => ?_
      have gp := fmod_pos (a := (c.fmod 2147483647 + 104729 * i + 7) ^ 5) p0
      exact k a _ ha ⟨_, _, sup_same, hg, gp.1, by omega⟩ Fr.sup
    · have hg : (0 : Int) ≤ 0 := by decide
      walk_at "bl"
      refine Go.mod (by decide) ?_
      walk_at "bl"
      refine Go.mul ((sm.of (n := 17) (by decide)).cmul (sm.of (n := 14) (by omega)) (by decide)) ?_
      walk_at "bl"
      refine powG (n := 40) (m := 5) (by unfold sm; omega) rfl (by decide) ?_
      walk_at "bl"
      refine Go.mod (by decide) ?_
      obtain ⟨p, p0, p1, ep⟩ := primes gi.1 gi.2
      walk_at "bl"
      refine Go.ixL ep ?_
      walk_at "bl"
      refine Go.mod (by omega) ?_
      walk_at "bl"
      refine Go.lstRK' rfl fun a ha => ?_
      have gp := fmod_pos (a := (c.fmod 2147483647 + 104729 * i + 7) ^ 5) p0
      exact k a _ ha ⟨_, _, sup_same, hg, gp.1, by omega⟩ Fr.sup
  walk_at "bl"
  refine Go.ifD (fun hk => ?_) fun hk => ?_
  · rw [List.length_map] at hk
    obtain ⟨j, rfl⟩ := Int.eq_ofNat_of_zero_le h
    walk_at "bl"
    refine Go.ixL (atI_nat (by rw [List.getElem?_map, List.getElem?_eq_getElem (show j < ns.length by omega)]; rfl)) ?_
    exact fin _
  · exact fin 0
theorem turned_spec {p : P2} {n : Nat} {S : Sto} {Q : DK} {E : EK} (hn : n < 4) (k : Q (pt (rot n p)) S) : m_l_turned [pt p, .int n] S Q E := by
  refine e_l_turned ?_
  unfold t_l_turned
  walk_at "bl"
  refine Go.mod (by decide) ?_
  rw [show (n : Int).fmod 4 = (n : Int) from by rw [Int.fmod_eq_emod_of_nonneg _ (by decide)]; omega]
  walk_at "bl"
  refine Go.r1' rfl (by omega) ?_
  refine forD_rng (fun j e s => ∃ o, e = [some (pt p), some (.int n), some (.int (rot j p).1), some (.int (rot j p).2), o] ∧ s = S) ⟨_, rfl, rfl⟩ ?_ ?_
  · rintro j e s hj ⟨o, rfl, rfl⟩
    refine ⟨_, rfl, fun N' hnx _ _ _ _ => ?_⟩
    show sPar _ _ [some (pt p), some (.int n), some (.int (rot j p).1), some (.int (rot j p).2), some (.int (0 + j))] _ _
    walk_at "bl"
    exact hnx _ _ ⟨_, rfl, rfl⟩
  · rintro e s ⟨o, rfl, rfl⟩
    walk_at "bl"
    exact k
theorem low_spec {p q : Int} {n : Nat} {r : Rat} {S : Sto} {Q : DK} {E : EK} (hq : 0 < q) (hp : sm n p) (hs : sm n q) (hn : n ≤ 8900) (h : r * q = p) (k : Q (fr r) S) : m_l_low [.int p, .int q] S Q E := by
  unfold m_l_low t_l_low
  have z := low_loop (p := p) (q := q) (n := n) (r := r) (S := S) (N := ⟨fun _ S1 => Q .non S1, Q, fun _ _ => False, fun _ _ => False, fun x _ S1 => E x S1⟩) hq hp hs hn h k
  simp only [fnD, sNx, sSeq, sRet, sRetN, sDrop, sIf, sBrk, sCnt, sAsg, sPar, sAug, sSub, setD, sThru, asgT, asgL, itemsOf, vr, cn, dTwo, tbl, ttr, truD_bl, truD_int, truD_non, truD_tup, truD_lst, truD_str, truD_ref, tAndD, tOrD, tNotD, vOf, eIf, vNot, dNeg, fAdd_int, fAdd_tup, fSub, fMul, fDiv, fMod, fPow, fShl, fLt, fLe, fGt, fGe, fEq, fNe, fIx_tup, fIx_lst, fIx_ref, aNil, aCons, dTup, dLst, dLstR, dB, bAbs, bLen_tup, bLen_lst, bLen_ref, bMax, bMin, bInt_int, bInt_bl, dBits, dCall, iVal, iR1, iR2, List.map_cons, List.map_nil, List.length_cons, List.length_nil, List.replicate, List.cons_append, List.nil_append, List.append_nil, List.set, List.getElem?_cons_zero, List.getElem?_cons_succ, List.getElem?_nil, atI_0, atI_1, atI_2, ix20, ix21, sup_same, Nat.reduceAdd, Nat.reduceSub, Nat.succ_eq_add_one, decide_eq_true_eq, Bool.not_eq_true', decide_eq_false_iff_not, true_and, and_true, Bool.true_eq_false, Bool.false_eq_true, if_true, if_false, reduceCtorEq] at z ⊢
  exact z
end Ld

namespace Ld
open PySem PySem.Spec PyProof.Rows L2 Bl Lb
/-! ### what the laws reckon by -/
theorem rooted_spec {n : Int} {m : Nat} {S : Sto} {Q : DK} {E : EK} (h0 : 0 ≤ n) (hs : sm m n) (hm : m ≤ 17000) (k : Q (.int (isq n.toNat)) S) : m_l_rooted [.int n] S Q E := whole_root_spec (m := m) h0 hs hm k
theorem lroot_spec {b : Int} {q : Rat} {n : Nat} {S : Sto} {Q : DK} {E : EK} (hb : sm n b) (hq : sr n q) (hq0 : 0 ≤ q) (hn : n ≤ 900) (k : Q (rt (canon (b : Rat) 1 q)) S) : m_l_root [.int b, fr q] S Q E := by
  refine e_l_root ?_
  unfold t_l_root
  have hn0 : 0 ≤ q.num := Rat.num_nonneg.mpr hq0
  have hd0 := den_pos q
  walk_at "bl"
  refine rooted_spec hn0 hq.n (by omega) ?_
  walk_at "bl"
  refine rooted_spec (by omega) hq.d (by omega) ?_
  rw [Int.toNat_natCast]
  have r1 := isq_sm hn0 hq.n
  have r2 := isq_sm (n := (q.den : Int)) (by omega) hq.d
  rw [Int.toNat_natCast] at r2
  have rd := isq_den q
  walk_at "bl"
  refine Go.mul (r1.cmul r1 (by omega)) ?_
  walk_at "bl"
  have done : sqb q → Q (rt ⟨(b : Rat) + sqr q, 0, 0⟩) S := fun h => by
    unfold canon at k
    by_cases z : q = 0
    · rw [if_pos (.inr z)] at k
      have : sqr q = 0 := sqr_of (t := 0) (by rw [z, Rat.mul_zero]) Rat.le_refl
      rw [this, Rat.add_zero]
      exact k
    · rw [if_neg (fun y => y.elim (by decide) z), if_pos h] at k
      have e : (b : Rat) + ((1 : Int) : Rat) * sqr q = (b : Rat) + sqr q := by
        rw [show ((1 : Int) : Rat) = 1 from rfl, Rat.one_mul]
      rw [e] at k
      exact k
  have none : ¬ sqb q → Q (rt ⟨(b : Rat), 1, q⟩) S := fun h => by
    unfold canon at k
    have z : q ≠ 0 := fun z => h (sqb_of (t := 0) (by rw [z, Rat.mul_zero]))
    rw [if_neg (fun y => y.elim (by decide) z), if_neg h] at k
    exact k
  refine Go.ifD (fun h1 => ?_) fun h1 => ?_
  · walk_at "bl"
    refine Go.mul (r2.cmul r2 (by omega)) ?_
    walk_at "bl"
    refine Go.ifD (fun h2 => ?_) fun h2 => ?_
    · walk_at "bl"
      refine Go.mul (hb.cmul r2 (by omega)) ?_
      walk_at "bl"
      refine low_spec (n := n + n + 1) (r := (b : Rat) + sqr q) (by omega) (((hb.mul r2).add (r1.mono (by omega)))) (r2.mono (by omega)) (by omega) ?_ ?_
      · unfold sqr
        rw [Rat.intCast_add, Rat.intCast_mul]
        have := Rat.div_mul_cancel (a := ((isq q.num.toNat : Int) : Rat)) (castne rd)
        grind
      walk_at "bl"
      exact done ⟨h1, h2⟩
    · walk_at "bl"
      exact none (fun z => h2 z.2)
  · walk_at "bl"
    exact none (fun z => h1 z.1)
theorem ldot_spec {a b : P2} {n : Nat} {S : Sto} {Q : DK} {E : EK} (a1 : sm n a.1) (a2 : sm n a.2) (b1 : sm n b.1) (b2 : sm n b.2) (hn : n ≤ 4000) (k : Q (.int (dot a b)) S) : m_l_dot [pt a, pt b] S Q E := by
  refine e_l_dot ?_
  unfold t_l_dot
  walk_at "bl"
  refine Go.mul (a1.cmul b1 (by omega)) ?_
  walk_at "bl"
  refine Go.mul (a2.cmul b2 (by omega)) ?_
  walk_at "bl"
  exact k
theorem lcross_spec {a b : P2} {n : Nat} {S : Sto} {Q : DK} {E : EK} (a1 : sm n a.1) (a2 : sm n a.2) (b1 : sm n b.1) (b2 : sm n b.2) (hn : n ≤ 4000) (k : Q (.int (crs a b)) S) : m_l_cross [pt a, pt b] S Q E := by
  refine e_l_cross ?_
  unfold t_l_cross
  walk_at "bl"
  refine Go.mul (a1.cmul b2 (by omega)) ?_
  walk_at "bl"
  refine Go.mul (a2.cmul b1 (by omega)) ?_
  walk_at "bl"
  exact k
theorem minus_spec {a b : P2} {S : Sto} {Q : DK} {E : EK} (k : Q (pt (dif a b)) S) : m_l_minus [pt a, pt b] S Q E := by
  refine e_l_minus ?_
  unfold t_l_minus
  walk_at "bl"
  exact k
/-- the law's steps: by the product of both bottoms -/
theorem lsteps_spec {P : R2} {p : P2} {n : Nat} {S : Sto} {Q : DK} {E : EK} (hP : PR n P) (hp : Bd p) (hn : n ≤ 400) (k : ∀ (u : P2) (B : Int), Stp (2 * n + 11) P p u B → sm (2 * n) B → Q (.tup [.int u.1, .int u.2, .int B]) S) : m_l_steps [pt p, plD P] S Q E := by
  refine e_l_steps ?_
  unfold t_l_steps
  have p1 : sm 10 p.1 := sm_of_le hp.1 (by decide)
  have p2 : sm 10 p.2 := sm_of_le hp.2 (by decide)
  have xn := hP.x.n
  have xd := hP.x.d
  have yn := hP.y.n
  have yd := hP.y.d
  have e1 := num_den P.1
  have e2 := num_den P.2
  walk_at "bl"
  refine Go.mul (xn.cmul yd (by omega)) ?_
  walk_at "bl"
  refine Go.mul (p1.cmul xd (by omega)) ?_
  walk_at "bl"
  refine Go.mul ((p1.mul xd).cmul yd (by omega)) ?_
  walk_at "bl"
  refine Go.mul (yn.cmul xd (by omega)) ?_
  walk_at "bl"
  refine Go.mul (p2.cmul xd (by omega)) ?_
  walk_at "bl"
  refine Go.mul ((p2.mul xd).cmul yd (by omega)) ?_
  walk_at "bl"
  refine Go.mul (xd.cmul yd (by omega)) ?_
  walk_at "bl"
  refine k (P.1.num * P.2.den - p.1 * P.1.den * P.2.den, P.2.num * P.1.den - p.2 * P.1.den * P.2.den) _ ⟨Int.mul_pos (den_pos _) (den_pos _), ?_, ?_, ?_, ?_⟩ ((xd.mul yd).mono (by omega))
  · unfold difR
    simp only [Rat.intCast_sub, Rat.intCast_mul]
    grind
  · unfold difR
    simp only [Rat.intCast_sub, Rat.intCast_mul]
    grind
  · exact (((xn.mul yd).mono (by omega : n + n ≤ 10 + n + n)).sub ((p1.mul xd).mul yd)).mono (by omega)
  · exact (((yn.mul xd).mono (by omega : n + n ≤ 10 + n + n)).sub ((p2.mul xd).mul yd)).mono (by omega)
/-- the square of how far a place is from a straight piece -/
def byR (p q : P2) (P : R2) : Rat :=
  let w := dif q p
  let t := dotR (difR P p) w
  if t ≤ 0 then nrm (difR P p) else if (dot w w : Rat) ≤ t then nrm (difR P q) else crsR (difR P p) w * crsR (difR P p) w / (dot w w : Int)
theorem div_nonneg' {a : Rat} {w : Int} (ha : 0 ≤ a) (hw : 0 ≤ w) : 0 ≤ a / (w : Rat) := by
  by_cases h : w = 0
  · subst h
    rw [Rat.div_def, show ((0 : Int) : Rat) = 0 from rfl, Rat.inv_zero, Rat.mul_zero]
    exact Rat.le_refl
  · have e := Rat.div_mul_cancel (a := a) (castne h)
    rw [← Rat.not_lt]
    intro z
    have y := (Rat.mul_neg_iff_of_pos_left (Rat.intCast_pos.mpr (show 0 < w by omega))).mpr z
    rw [Rat.mul_comm, e] at y
    exact Rat.not_lt.mpr ha y
theorem byR_nonneg (p q : P2) (P : R2) : 0 ≤ byR p q P := by
  unfold byR
  dsimp only
  split
  · exact nrm_nonneg _
  split
  · exact nrm_nonneg _
  · exact div_nonneg' (sq_nonneg _) (dot_nonneg _)
theorem nrm_over {P : R2} {p u : P2} {m : Nat} {B : Int} (hu : Stp m P p u B) : nrm (difR P p) * (B * B : Int) = (u.1 * u.1 + u.2 * u.2 : Int) := by
  have e := hu.nrm
  unfold Lb.dot at e
  rw [e]
  grind
theorem by_cord_spec {P : R2} {p q : P2} {n : Nat} {S : Sto} {Q : DK} {E : EK} (hP : PR n P) (hp : Bd p) (hq : Bd q) (hne : p ≠ q) (hn : n ≤ 150) (k : sr (4 * n + 74) (byR p q P) → Q (fr (byR p q P)) S) : m_l_by_cord [pt p, pt q, plD P] S Q E := by
  refine e_l_by_cord ?_
  unfold t_l_by_cord
  obtain ⟨w1, w2⟩ := sm_dif hq hp
  have w0 := dot_pos (dif_ne (Ne.symm hne))
  walk_at "bl"
  refine lsteps_spec hP hp (by omega) fun u B hu sB => ?_
  walk_at "bl"
  refine minus_spec ?_
  walk_at "bl"
  refine ldot_spec w1 w2 w1 w2 (by omega) ?_
  walk_at "bl"
  refine ldot_spec (n := 2 * n + 12) (a := (u.1, u.2)) (hu.s1.mono (by omega)) (hu.s2.mono (by omega)) (w1.mono (by omega)) (w2.mono (by omega)) (by omega) ?_
  have sW := sm_dot w1 w2 w1 w2
  have ed := hu.dot (v := dif q p)
  have ec := hu.crs (v := dif q p)
  have b0 := hu.b0
  have bb := Int.mul_pos b0 b0
  have nn : nrm (difR P p) * (B * B : Int) = (u.1 * u.1 + u.2 * u.2 : Int) := nrm_over hu
  have g1 := sc_nonpos b0 ed
  have g2 : ((dot (dif q p) (dif q p) * B - dot u (dif q p) : Int) : Rat) = B * ((dot (dif q p) (dif q p) : Rat) - dotR (difR P p) (dif q p)) := by
    simp only [Rat.intCast_sub, Rat.intCast_mul]
    rw [ed]
    grind
  have g3 := sc_nonpos b0 g2
  have su : sm (4 * n + 25) (u.1 * u.1 + u.2 * u.2) := ((hu.s1.mul hu.s1).add (hu.s2.mul hu.s2)).mono (by omega)
  unfold byR at k
  dsimp only at k
  walk_at "bl"
  refine Go.ifD (fun h1 => ?_) fun h1 => ?_
  · rw [if_pos (g1.mp h1)] at k
    walk_at "bl"
    refine Go.mul (hu.s1.cmul hu.s1 (by omega)) ?_
    walk_at "bl"
    refine Go.mul (hu.s2.cmul hu.s2 (by omega)) ?_
    walk_at "bl"
    refine Go.mul (sB.cmul sB (by omega)) ?_
    walk_at "bl"
    have sb2 := (sB.mul sB).mono (by omega : 2 * n + 2 * n ≤ 4 * n + 25)
    have z := low_sm (by omega) nn su sb2
    exact low_spec bb su sb2 (by omega) nn (k ⟨z.1.mono (by omega), z.2.mono (by omega)⟩)
  rw [if_neg (fun z => h1 (g1.mpr z))] at k
  walk_at "bl"
  refine Go.mul (sW.cmul sB (by omega)) ?_
  walk_at "bl"
  refine Go.ifD (fun h2 => ?_) fun h2 => ?_
  · have h3 := g3.mp (by have h2' : dot (dif q p) (dif q p) * B ≤ dot u (dif q p) := h2; omega)
    rw [if_pos (by grind)] at k
    walk_at "bl"
    refine lsteps_spec hP hq (by omega) fun v B hv sB => ?_
    have b0 := hv.b0
    have bb := Int.mul_pos b0 b0
    have nn : nrm (difR P q) * (B * B : Int) = (v.1 * v.1 + v.2 * v.2 : Int) := nrm_over hv
    have su : sm (4 * n + 25) (v.1 * v.1 + v.2 * v.2) := ((hv.s1.mul hv.s1).add (hv.s2.mul hv.s2)).mono (by omega)
    walk_at "bl"
    refine Go.mul (hv.s1.cmul hv.s1 (by omega)) ?_
    walk_at "bl"
    refine Go.mul (hv.s2.cmul hv.s2 (by omega)) ?_
    walk_at "bl"
    refine Go.mul (sB.cmul sB (by omega)) ?_
    walk_at "bl"
    have sb2 := (sB.mul sB).mono (by omega : 2 * n + 2 * n ≤ 4 * n + 25)
    have z := low_sm (by omega) nn su sb2
    exact low_spec bb su sb2 (by omega) nn (k ⟨z.1.mono (by omega), z.2.mono (by omega)⟩)
  · have h3 : ¬ (dot (dif q p) (dif q p) * B - dot u (dif q p) ≤ 0) := by
      have h2' : ¬ dot (dif q p) (dif q p) * B ≤ dot u (dif q p) := h2
      omega
    have h4 := fun z => h3 (g3.mpr z)
    rw [if_neg (by grind)] at k
    walk_at "bl"
    refine lcross_spec (n := 2 * n + 12) (a := (u.1, u.2)) (hu.s1.mono (by omega)) (hu.s2.mono (by omega)) (w1.mono (by omega)) (w2.mono (by omega)) (by omega) ?_
    walk_at "bl"
    have sc : sm (2 * n + 24) (crs u (dif q p)) := ((hu.s1.mul w2).sub (hu.s2.mul w1)).mono (by omega)
    refine Go.pow2 sc (by omega) ?_
    walk_at "bl"
    refine Go.mul (sW.cmul sB (by omega)) ?_
    walk_at "bl"
    refine Go.mul ((sW.mul sB).cmul sB (by omega)) ?_
    walk_at "bl"
    have hb : 0 < dot (dif q p) (dif q p) * B * B := Int.mul_pos (Int.mul_pos w0 b0) b0
    have hs : sm (4 * n + 48) (crs u (dif q p) * crs u (dif q p)) := (sc.mul sc).mono (by omega)
    have hs2 : sm (4 * n + 48) (dot (dif q p) (dif q p) * B * B) := ((sW.mul sB).mul sB).mono (by omega)
    have nn : crsR (difR P p) (dif q p) * crsR (difR P p) (dif q p) / ((dot (dif q p) (dif q p) : Int) : Rat) * ((dot (dif q p) (dif q p) * B * B : Int) : Rat) = ((crs u (dif q p) * crs u (dif q p) : Int) : Rat) := by
      simp only [Rat.intCast_mul]
      rw [ec]
      have := Rat.div_mul_cancel (a := crsR (difR P p) (dif q p) * crsR (difR P p) (dif q p)) (castne (show dot (dif q p) (dif q p) ≠ 0 by omega))
      generalize crsR (difR P p) (dif q p) * crsR (difR P p) (dif q p) / ((dot (dif q p) (dif q p) : Int) : Rat) = r at *
      grind
    have z := low_sm (by omega) nn hs hs2
    exact low_spec hb hs hs2 (by omega) nn (k ⟨z.1.mono (by omega), z.2.mono (by omega)⟩)
end Ld

namespace Ld
open PySem PySem.Spec PyProof.Rows L2 Bl Lb
/-! ### things and places that the laws draw -/
theorem addL {ds es : List D} {S : Sto} {Q : DK} (h : Nat.ble (ds ++ es).length 1000 = true) (k : Q (.lst (ds ++ es)) S) : fCat (.lst ds) (.lst es) S Q := ⟨by have := Nat.le_of_ble_eq_true h; rw [List.length_append] at this; exact Nat.le_trans this (by decide), k⟩
theorem appG {ta : TAd} {env : Ev} {S : Sto} {Q : DK} {E : EK} {r : Addr} {i : Nat} {xs : List D} (e : env[i]? = some (some (.ref r))) (h : S r = some xs) (k : ta env S (fun ds S2 => gApp r ds S2 Q) E) : dLm gApp (vr i) ta env S Q E := by
  unfold dLm
  refine vr_go e ?_
  exact ⟨by rw [h]; rfl, k⟩
theorem appK {r : Addr} {d : D} {xs : List D} {S : Sto} {Q : DK} (h : S r = some xs) (hl : Nat.ble xs.length 1000 = true) (k : Q .non (sup S r (xs ++ [d]))) : gApp r [d] S Q := by
  unfold gApp
  dsimp only
  rw [h]
  exact ⟨Nat.lt_of_le_of_lt (Nat.le_of_ble_eq_true hl) (by decide), k⟩
theorem lstG {ds : List D} {S : Sto} {Q : DK} (k : Q (.lst ds) S) : bLst [.tup ds] S Q := k
theorem longs {d : Int} (h0 : 0 ≤ d) (h1 : d < 8) : ∃ x y r : Int, (x * x + y * y = r * r ∧ 0 ≤ x ∧ x ≤ 15 ∧ 0 ≤ y ∧ y ≤ 15 ∧ 0 < r) ∧ atI [pt (1, 0), pt (2, 0), pt (3, 4), pt (4, 3), pt (5, 12), pt (12, 5), pt (8, 15), pt (9, 0)] d = some (pt (x, y)) := by
  rcases (by omega : d = (0 : Nat) ∨ d = (1 : Nat) ∨ d = (2 : Nat) ∨ d = (3 : Nat) ∨ d = (4 : Nat) ∨ d = (5 : Nat) ∨ d = (6 : Nat) ∨ d = (7 : Nat)) with h | h | h | h | h | h | h | h <;> subst h
  · exact ⟨1, 0, 1, by decide, atI_nat rfl⟩
  · exact ⟨2, 0, 2, by decide, atI_nat rfl⟩
  · exact ⟨3, 4, 5, by decide, atI_nat rfl⟩
  · exact ⟨4, 3, 5, by decide, atI_nat rfl⟩
  · exact ⟨5, 12, 13, by decide, atI_nat rfl⟩
  · exact ⟨12, 5, 13, by decide, atI_nat rfl⟩
  · exact ⟨8, 15, 17, by decide, atI_nat rfl⟩
  · exact ⟨9, 0, 9, by decide, atI_nat rfl⟩
structure Arc (u v : P2) (r d : Int) : Prop where
  e1 : dot u u = r * r
  e2 : dot v v = r * r
  e3 : dot u u - 2 * dot u v + dot v v = d * d
  r0 : 0 ≤ r
  d0 : 0 < d
  tn : 0 ≤ crs u v
  u1 : PIn 25 u
  v1 : PIn 25 v
instance (u v : P2) (r d : Int) : Decidable (Arc u v r d) :=
  decidable_of_iff (dot u u = r * r ∧ dot v v = r * r ∧ dot u u - 2 * dot u v + dot v v = d * d ∧ 0 ≤ r ∧ 0 < d ∧ 0 ≤ crs u v ∧ (u.1.natAbs ≤ 25 ∧ u.2.natAbs ≤ 25) ∧ (v.1.natAbs ≤ 25 ∧ v.2.natAbs ≤ 25))
    ⟨fun ⟨a, b, c, d, e, f, g, h⟩ => ⟨a, b, c, d, e, f, g, h⟩, fun ⟨a, b, c, d, e, f, g, h⟩ => ⟨a, b, c, d, e, f, g, h⟩⟩
abbrev pp (u v : P2) : D := .tup [pt u, pt v]
theorem arcs {d : Int} (h0 : 0 ≤ d) (h1 : d < 9) : ∃ (u v : P2) (r c : Int), Arc u v r c ∧ atI [pp (1, 0) (-1, 0), pp (3, 4) (-3, 4), pp (4, 3) (-4, 3), pp (5, 12) (-5, 12), pp (12, 5) (-12, 5), pp (25, 0) (7, 24), pp (25, 0) (-7, 24), pp (3, 4) (-3, -4), pp (24, 7) (-24, 7)] d = some (pp u v) := by
  rcases (by omega : d = (0 : Nat) ∨ d = (1 : Nat) ∨ d = (2 : Nat) ∨ d = (3 : Nat) ∨ d = (4 : Nat) ∨ d = (5 : Nat) ∨ d = (6 : Nat) ∨ d = (7 : Nat) ∨ d = (8 : Nat)) with h | h | h | h | h | h | h | h | h <;> subst h
  · exact ⟨(1, 0), (-1, 0), 1, 2, by decide, atI_nat rfl⟩
  · exact ⟨(3, 4), (-3, 4), 5, 6, by decide, atI_nat rfl⟩
  · exact ⟨(4, 3), (-4, 3), 5, 8, by decide, atI_nat rfl⟩
  · exact ⟨(5, 12), (-5, 12), 13, 10, by decide, atI_nat rfl⟩
  · exact ⟨(12, 5), (-12, 5), 13, 24, by decide, atI_nat rfl⟩
  · exact ⟨(25, 0), (7, 24), 25, 30, by decide, atI_nat rfl⟩
  · exact ⟨(25, 0), (-7, 24), 25, 40, by decide, atI_nat rfl⟩
  · exact ⟨(3, 4), (-3, -4), 5, 10, by decide, atI_nat rfl⟩
  · exact ⟨(24, 7), (-24, 7), 25, 48, by decide, atI_nat rfl⟩
def WayOk (way : Int) : Th → Prop
  | .spot _ => way < 2
  | .cord _ _ => ¬ way < 2 ∧ way < 5
  | .bow _ _ _ => ¬ way < 5
theorem smul_sm {s x : Int} (hs0 : 0 < s) (hs3 : s ≤ 3) {m : Nat} (h : x.natAbs ≤ m) : (x * s).natAbs ≤ m * 3 := by
  rw [Int.natAbs_mul]
  exact Nat.mul_le_mul h (by omega)
theorem thing_spec {a : Addr} {wide way : Int} {S : Sto} {Q : DK} {E : EK} (hb : Bg S a) (hm0 : 0 < wide) (hm1 : wide ≤ 900) (k : ∀ t S', GoodTh t → TIn (wide.toNat + 75) t → WayOk way t → Bg S' a → Q (thD t) S') : m_l_thing [.ref a, .int wide, .int way] S Q E := by
  refine e_l_thing ?_
  unfold t_l_thing
  have sw : sm 10 wide := by unfold sm; omega
  walk_at "bl"
  refine take_spec hb (by omega) (sm_k (by decide)) fun sz S1 s0 s1 b1 _ => ?_
  walk_at "bl"
  refine take_spec b1 (by omega) (sm_k (by decide)) fun qr S2 q0 q1 b2 _ => ?_
  obtain ⟨n, rfl⟩ : ∃ n : Nat, qr = n := ⟨qr.toNat, by omega⟩
  walk_at "bl"
  refine Go.mul ((sm.of (n := 2) (by decide)).cmul sw (by decide)) ?_
  walk_at "bl"
  refine take_spec b2 (by omega) ((show sm 12 _ by unfold sm; omega).mono (by decide)) fun x0 S3 x1 x2 b3 _ => ?_
  walk_at "bl"
  refine Go.mul ((sm.of (n := 2) (by decide)).cmul sw (by decide)) ?_
  walk_at "bl"
  refine take_spec b3 (by omega) ((show sm 12 _ by unfold sm; omega).mono (by decide)) fun y0 S4 y1 y2 b4 _ => ?_
  generalize hat : (x0 - wide, y0 - wide) = at'
  have pb : PIn wide.toNat at' := by rw [← hat]; exact ⟨by show (x0 - wide).natAbs ≤ _; omega, by show (y0 - wide).natAbs ≤ _; omega⟩
  have pb' : PIn (wide.toNat + 75) at' := ⟨Nat.le_trans pb.1 (by omega), Nat.le_trans pb.2 (by omega)⟩
  have hbase : Bd at' := pb.bd (by omega)
  have ex : x0 - wide = at'.1 := by rw [← hat]
  have ey : y0 - wide = at'.2 := by rw [← hat]
  walk_at "bl"
  rw [ex, ey]
  generalize hs : 1 + sz = s at *
  have hs0 : 0 < s := by omega
  have hs3 : s ≤ 3 := by omega
  have ss : sm 4 s := by unfold sm; omega
  refine addL rfl ?_
  walk_at "bl"
  refine Go.ifD (fun hk => ?_) fun hk => ?_
  · walk_at "bl"
    exact k (.spot at') S4 hbase pb' hk b4
  walk_at "bl"
  refine take_spec b4 (by omega) (sm_k (by decide)) fun d S5 d0 d1 b5 _ => ?_
  obtain ⟨x, y, r, ⟨he, hx, hx1, hy, hy1, hr⟩, ed⟩ := longs d0 d1
  refine Go.ixL ed ?_
  have far_in : ∀ u : P2, PIn 25 u → PIn (wide.toNat + 75) (plus2 at' (rot n (u.1 * s, u.2 * s))) := fun u hu =>
    plus_in pb (rot_bd (u := (u.1 * s, u.2 * s)) (m := 75) (smul_sm hs0 hs3 hu.1) (smul_sm hs0 hs3 hu.2) n)
  walk_at "bl"
  by_cases hw : way < 5
  · rw [decide_eq_false (show ¬ 4 < way by omega)]
    refine Go.ifBF rfl ?_
    walk_at "bl"
    refine Go.lstRK' rfl fun c hc => ?_
    have b6 : ∀ ds : List D, Bg (sup S5 c ds) a := fun ds => by
      obtain ⟨c1, m1, e, z⟩ := b5
      refine ⟨c1, m1, ?_, z⟩
      rw [sup_ne (fun z => by rw [z, hc] at e; cases e)]
      exact e
    walk_at "bl"
    refine Go.mul ((show sm 5 x by unfold sm; omega).cmul ss (by decide)) ?_
    walk_at "bl"
    refine Go.mul ((show sm 5 y by unfold sm; omega).cmul ss (by decide)) ?_
    walk_at "bl"
    refine turned_spec (p := (x * s, y * s)) (by omega) ?_
    walk_at "bl"
    refine appG rfl sup_same ?_
    walk_at "bl"
    refine appK sup_same rfl ?_
    walk_at "bl"
    refine Go.ifD (fun _ => ?_) fun z => absurd hw z
    walk_at "bl"
    refine Go.ixR sup_same atI_0 ?_
    walk_at "bl"
    have hb2 := far_in (x, y) ⟨by show x.natAbs ≤ 25; omega, by show y.natAbs ≤ 25; omega⟩
    have hu : dot (x * s, y * s) (x * s, y * s) = (r * s) * (r * s) := by
      unfold dot
      dsimp only
      grind
    have er : 0 < r * s := Int.mul_pos hr hs0
    have bg : Bg (sup (sup S5 c []) c [pt (plus2 at' (rot n (x * s, y * s)))]) a := by
      obtain ⟨c1, m1, e, z⟩ := b5
      refine ⟨c1, m1, ?_, z⟩
      have ne : a ≠ c := fun z => by rw [z, hc] at e; cases e
      rw [sup_ne ne, sup_ne ne]
      exact e
    refine k (.cord at' (plus2 at' (rot n (x * s, y * s)))) _ ⟨hbase, hb2.bd (by omega), fun z => ?_, ⟨r * s, by omega, by rw [far_plus0, rot_dot, hu]⟩⟩ ⟨pb', hb2⟩ ⟨hk, hw⟩ bg
    have e := far_plus0 at' (rot n (x * s, y * s))
    rw [rot_dot, hu, ← z, far_self] at e
    have := Int.mul_pos er er
    omega
  · rw [decide_eq_true (show 4 < way by omega)]
    refine Go.ifBT rfl ?_
    walk_at "bl"
    refine take_spec b5 (by omega) (sm_k (by decide)) fun d' S6 d0' d1' b6 _ => ?_
    obtain ⟨u, v, R, C, ar, ed'⟩ := arcs d0' d1'
    refine Go.ixL ed' ?_
    walk_at "bl"
    refine lstG ?_
    walk_at "bl"
    refine Go.lstRK' rfl fun c hc => ?_
    have uin := ar.u1
    have vin := ar.v1
    have s5 : ∀ {i : Int}, i.natAbs ≤ 25 → sm 5 i := fun h => by unfold sm; omega
    walk_at "bl"
    refine Go.mul ((s5 uin.1).cmul ss (by decide)) ?_
    walk_at "bl"
    refine Go.mul ((s5 uin.2).cmul ss (by decide)) ?_
    walk_at "bl"
    refine turned_spec (p := (u.1 * s, u.2 * s)) (by omega) ?_
    walk_at "bl"
    refine appG rfl sup_same ?_
    walk_at "bl"
    refine appK sup_same rfl ?_
    walk_at "bl"
    refine Go.mul ((s5 vin.1).cmul ss (by decide)) ?_
    walk_at "bl"
    refine Go.mul ((s5 vin.2).cmul ss (by decide)) ?_
    walk_at "bl"
    refine turned_spec (p := (v.1 * s, v.2 * s)) (by omega) ?_
    walk_at "bl"
    refine appG rfl sup_same ?_
    walk_at "bl"
    refine appK sup_same rfl ?_
    walk_at "bl"
    refine Go.ifD (fun z => absurd z hw) fun _ => ?_
    walk_at "bl"
    refine Go.ixR sup_same atI_0 ?_
    walk_at "bl"
    refine Go.ixR sup_same atI_1 ?_
    walk_at "bl"
    have hb2 := far_in u uin
    have hb3 := far_in v vin
    have bg : ∀ l1 l2 l3, Bg (sup (sup (sup S6 c l1) c l2) c l3) a := fun l1 l2 l3 => by
      obtain ⟨c1, m1, e, z⟩ := b6
      refine ⟨c1, m1, ?_, z⟩
      have ne : a ≠ c := fun z => by rw [z, hc] at e; cases e
      rw [sup_ne ne, sup_ne ne, sup_ne ne]
      exact e
    have e1 : dot (u.1 * s, u.2 * s) (u.1 * s, u.2 * s) = (R * s) * (R * s) := by
      have := ar.e1
      unfold dot at *
      dsimp only
      grind
    have e2 : dot (v.1 * s, v.2 * s) (v.1 * s, v.2 * s) = (R * s) * (R * s) := by
      have := ar.e2
      unfold dot at *
      dsimp only
      grind
    have e3 : dot (u.1 * s, u.2 * s) (u.1 * s, u.2 * s) - 2 * dot (u.1 * s, u.2 * s) (v.1 * s, v.2 * s) + dot (v.1 * s, v.2 * s) (v.1 * s, v.2 * s) = (C * s) * (C * s) := by
      have := ar.e3
      unfold dot at *
      dsimp only
      grind
    have e4 : 0 ≤ crs (u.1 * s, u.2 * s) (v.1 * s, v.2 * s) := by
      have h := Int.mul_nonneg ar.tn (Int.mul_nonneg (show 0 ≤ s by omega) (show 0 ≤ s by omega))
      have : crs (u.1 * s, u.2 * s) (v.1 * s, v.2 * s) = crs u v * (s * s) := by
        unfold crs
        dsimp only
        grind
      omega
    exact k (.bow at' (plus2 at' (rot n (u.1 * s, u.2 * s))) (plus2 at' (rot n (v.1 * s, v.2 * s)))) _ ⟨hbase, hb2.bd (by omega), hb3.bd (by omega), .mk' e1 e2 (Int.mul_nonneg ar.r0 (by omega)) e3 (Int.mul_pos ar.d0 hs0) e4⟩ ⟨pb', hb2, hb3⟩ hw (bg _ _ _)
end Ld

namespace Ld
open PySem PySem.Spec PyProof.Rows L2 Bl Lb
/-! ### how far from a straight piece: plain -/
theorem canon_zero (b : Rat) (s : Int) : canon b s 0 = ⟨b, 0, 0⟩ := by
  unfold canon
  rw [if_pos (.inr rfl)]
theorem canon_sq {x : Rat} (h : 0 ≤ x) : canon 0 1 (x * x) = ⟨x, 0, 0⟩ := by
  by_cases z : x = 0
  · subst z
    rw [Rat.mul_zero, canon_zero]
  · unfold canon
    rw [if_neg (fun y => y.elim (by decide) fun y => (Rat.mul_eq_zero.mp y).elim z z), if_pos (sqb_of rfl), sqr_of rfl h]
    rw [show ((1 : Int) : Rat) = 1 from rfl, Rat.one_mul, Rat.zero_add]
theorem find_all {fs : List Fc} {P : R2} {v : Rt} (h1 : ∀ f ∈ fs, spokedR P f → fdR P f = v) (h2 : (∀ f ∈ fs, ¬ spokedR P f) → v = ⟨0, 0, 0⟩) :
    (match fs.find? (fun f => decide (spokedR P f)) with | none => ⟨0, 0, 0⟩ | some f => fdR P f) = v := by
  cases e : fs.find? (fun f => decide (spokedR P f)) with
  | none =>
    refine (h2 fun f hf hs => ?_).symm
    have := List.find?_eq_none.mp e f hf
    exact this (decide_eq_true hs)
  | some f =>
    have h := List.find?_some e
    exact h1 f (List.mem_of_find?_eq_some e) (of_decide_eq_true h)
theorem side_rel {a b : P2} (hne : a ≠ b) : ∃ G : Int, 0 < G ∧ (dif b a).2 = G * (outw a b).1 ∧ 0 - (dif b a).1 = G * (outw a b).2 := by
  have h0 : ((dif b a).2, 0 - (dif b a).1) ≠ ((0, 0) : P2) := fun z => by
    have h1 := congrArg Prod.fst z
    have h2 := congrArg Prod.snd z
    dsimp only at h1 h2
    exact dif_ne (Ne.symm hne) (Prod.ext (by dsimp only; omega) h1)
  obtain ⟨h1, h2⟩ := low_mul h0
  exact ⟨_, gcd_pos' h0, h1, h2⟩
/-- what a straight piece and a place are to one another -/
structure Lay (a b : P2) (P : R2) (G L : Int) (C t : Rat) : Prop where
  g0 : 0 < G
  l0 : 0 < L
  eL : L = dot (dif b a) (dif b a)
  eC : C = crsR (difR P a) (dif b a)
  et : t = dotR (difR P a) (dif b a)
  hgt : (G : Rat) * heightR P a b = C
  ff : (G : Rat) * G * (dot (outw a b) (outw a b) : Int) = L
  nu : C * C + t * t = nrm (difR P a) * L
  nv : C * C + (t - L) * (t - L) = nrm (difR P b) * L
  ca : (G : Rat) * crsR (difR P a) (outw a b) = -t
  cb : (G : Rat) * crsR (difR P b) (outw a b) = L - t
theorem lay_of {a b : P2} (hne : a ≠ b) (P : R2) : ∃ (G L : Int) (C t : Rat), Lay a b P G L C t := by
  obtain ⟨G, g0, h1, h2⟩ := side_rel hne
  have r1 : ((dif b a).2 : Rat) = G * (outw a b).1 := by rw [h1, Rat.intCast_mul]
  have r2 : ((dif b a).1 : Rat) = - ((G : Rat) * (outw a b).2) := by
    have : (dif b a).1 = - (G * (outw a b).2) := by omega
    rw [this, Rat.intCast_neg, Rat.intCast_mul]
  have eL : ((dot (dif b a) (dif b a) : Int) : Rat) = (dif b a).1 * (dif b a).1 + (dif b a).2 * (dif b a).2 := by
    unfold Lb.dot
    rw [Rat.intCast_add, Rat.intCast_mul, Rat.intCast_mul]
  have d1 : (difR P b).1 = (difR P a).1 - (dif b a).1 := by
    unfold difR dif
    dsimp only
    rw [Rat.intCast_sub]
    grind
  have d2 : (difR P b).2 = (difR P a).2 - (dif b a).2 := by
    unfold difR dif
    dsimp only
    rw [Rat.intCast_sub]
    grind
  refine ⟨G, dot (dif b a) (dif b a), _, _, g0, dot_pos (dif_ne (Ne.symm hne)), rfl, rfl, rfl, ?_, ?_, ?_, ?_, ?_, ?_⟩
  · unfold heightR dotR crsR
    rw [r1, r2]
    grind
  · rw [eL]
    unfold Lb.dot
    rw [Rat.intCast_add, Rat.intCast_mul, Rat.intCast_mul, r1, r2]
    grind
  · rw [eL]
    unfold crsR dotR nrm
    grind
  · rw [eL]
    unfold crsR dotR nrm
    rw [d1, d2]
    grind
  · unfold dotR crsR
    rw [r1, r2]
    grind
  · rw [eL]
    unfold dotR crsR
    rw [d1, d2, r1, r2]
    grind
theorem Lay.by {a b : P2} {P : R2} {G L : Int} {C t : Rat} (h : Lay a b P G L C t) : byR a b P = if t ≤ 0 then nrm (difR P a) else if (L : Rat) ≤ t then nrm (difR P b) else C * C / L := by
  unfold byR
  dsimp only
  rw [h.eL, h.eC, h.et]
theorem Lay.lr {a b : P2} {P : R2} {G L : Int} {C t : Rat} (h : Lay a b P G L C t) : (0 : Rat) < L := Rat.intCast_pos.mpr h.l0
theorem Lay.gr {a b : P2} {P : R2} {G L : Int} {C t : Rat} (h : Lay a b P G L C t) : (0 : Rat) < G := Rat.intCast_pos.mpr h.g0
/-- between the ends: the square of the height -/
theorem Lay.mid {a b : P2} {P : R2} {G L : Int} {C t : Rat} (h : Lay a b P G L C t) (h0 : 0 ≤ t) (h1 : t ≤ L) : byR a b P * L = C * C := by
  have l0 := h.lr
  have nu := h.nu
  have nv := h.nv
  rw [h.by]
  split
  · have : t = 0 := Rat.le_antisymm (by assumption) h0
    rw [← nu, this]
    grind
  split
  · have : t = L := Rat.le_antisymm h1 (by assumption)
    rw [← nv, this]
    grind
  · exact Rat.div_mul_cancel (fun z => by rw [z] at l0; exact absurd l0 (by decide))
theorem Lay.beside {a b : P2} {P : R2} {G L : Int} {C t : Rat} (h : Lay a b P G L C t) : besideR P a b ↔ 0 ≤ t ∧ t ≤ L := by
  unfold besideR
  rw [h.et, h.eL]
theorem Lay.side {a b : P2} {P : R2} {G L : Int} {C t : Rat} (h : Lay a b P G L C t) : spokedR P (.side a b) ↔ 0 < C ∧ 0 ≤ t ∧ t ≤ L := by
  show 0 < heightR P a b ∧ besideR P a b ↔ _
  rw [h.beside, ← h.hgt, Rat.mul_pos_iff_of_pos_left h.gr]
theorem Lay.side_dist {a b : P2} {P : R2} {G L : Int} {C t : Rat} (h : Lay a b P G L C t) (hd : DirOk 12 (outw a b)) (hs : spokedR P (.side a b)) : fdR P (.side a b) = canon 0 1 (byR a b P) := by
  obtain ⟨c0, t0, t1⟩ := h.side.mp hs
  have m := h.mid t0 t1
  have l0 := h.lr
  have g0 := h.gr
  have ll := lenq_sq hd
  have lp := lenq_pos hd.ne
  have ll' : ((lenq (outw a b) : Int) : Rat) * (lenq (outw a b) : Int) = ((dot (outw a b) (outw a b) : Int) : Rat) := by rw [← ll, Rat.intCast_mul]
  have hh := h.hgt
  have ff := h.ff
  show (⟨heightR P a b / (lenq (outw a b) : Int), 0, 0⟩ : Rt) = _
  obtain ⟨x, hx⟩ : ∃ x, x = heightR P a b / ((lenq (outw a b) : Int) : Rat) := ⟨_, rfl⟩
  have xl : x * ((lenq (outw a b) : Int) : Rat) = heightR P a b := by rw [hx]; exact Rat.div_mul_cancel (castne (by omega))
  have xx : x * x = byR a b P := by
    have e : (x * x) * (L : Rat) = byR a b P * L := by
      rw [m, ← ff, ← ll', ← hh, ← xl]
      grind
    have z := Rat.mul_inv_cancel (L : Rat) (castne (show L ≠ 0 by have := h.l0; omega))
    generalize byR a b P = y at *
    grind
  rw [← hx, ← xx]
  refine (canon_sq ?_).symm
  have h1 : 0 < heightR P a b := hs.1
  have h2 : (0 : Rat) < ((lenq (outw a b) : Int) : Rat) := Rat.intCast_pos.mpr lp
  rw [← xl] at h1
  rw [Rat.mul_comm, Rat.mul_pos_iff_of_pos_left h2] at h1
  exact Rat.le_of_lt h1
theorem Lay.flip {a b : P2} {P : R2} {G L : Int} {C t : Rat} (h : Lay a b P G L C t) (hne : a ≠ b) : ∃ G', Lay b a P G' L (-C) (L - t) := by
  obtain ⟨G', L', C', t', k⟩ := lay_of (Ne.symm hne) P
  have e1 : dif a b = (- (dif b a).1, - (dif b a).2) := by
    unfold dif
    exact Prod.ext (by dsimp only; omega) (by dsimp only; omega)
  have eL : L' = L := by
    rw [k.eL, h.eL, e1]
    unfold Lb.dot
    dsimp only
    grind
  have d1 : (difR P b).1 = (difR P a).1 - (dif b a).1 := by
    unfold difR dif
    dsimp only
    rw [Rat.intCast_sub]
    grind
  have d2 : (difR P b).2 = (difR P a).2 - (dif b a).2 := by
    unfold difR dif
    dsimp only
    rw [Rat.intCast_sub]
    grind
  have rL : (L : Rat) = (dif b a).1 * (dif b a).1 + (dif b a).2 * (dif b a).2 := by
    rw [h.eL]
    unfold Lb.dot
    rw [Rat.intCast_add, Rat.intCast_mul, Rat.intCast_mul]
  have eC : C' = -C := by
    rw [k.eC, h.eC, e1]
    unfold crsR
    dsimp only
    rw [Rat.intCast_neg, Rat.intCast_neg, d1, d2]
    grind
  have et : t' = L - t := by
    rw [k.et, h.et, rL, e1]
    unfold dotR
    dsimp only
    rw [Rat.intCast_neg, Rat.intCast_neg, d1, d2]
    grind
  rw [← eL, ← eC] at *
  exact ⟨G', by rw [← et]; exact k⟩
theorem byR_comm {a b : P2} (hne : a ≠ b) (P : R2) : byR b a P = byR a b P := by
  obtain ⟨G, L, C, t, h⟩ := lay_of hne P
  obtain ⟨G', k⟩ := h.flip hne
  have l0 := h.lr
  rw [h.by, k.by]
  by_cases h1 : t ≤ 0
  · rw [if_pos h1, if_neg (by grind), if_pos (by grind)]
  · rw [if_neg h1]
    by_cases h2 : (L : Rat) ≤ t
    · rw [if_pos h2, if_pos (by grind)]
    · rw [if_neg h2, if_neg (by grind), if_neg (by grind)]
      congr 1
      grind
theorem outw_ne {a b : P2} (hne : a ≠ b) : outw a b ≠ outw b a := fun z => by
  obtain ⟨G, g0, h1, h2⟩ := side_rel hne
  obtain ⟨G', g0', h3, h4⟩ := side_rel (Ne.symm hne)
  rw [← z] at h3 h4
  have e1 : (dif a b).1 = - (dif b a).1 := by unfold dif; dsimp only; omega
  have e2 : (dif a b).2 = - (dif b a).2 := by unfold dif; dsimp only; omega
  have k1 : (G + G') * (outw a b).1 = 0 := by rw [Int.add_mul]; omega
  have k2 : (G + G') * (outw a b).2 = 0 := by rw [Int.add_mul]; omega
  have y1 : (outw a b).1 = 0 := (Int.mul_eq_zero.mp k1).resolve_left (by omega)
  have y2 : (outw a b).2 = 0 := (Int.mul_eq_zero.mp k2).resolve_left (by omega)
  rw [y1, Int.mul_zero] at h1
  rw [y2, Int.mul_zero] at h2
  exact dif_ne (Ne.symm hne) (Prod.ext (by dsimp only; omega) h1)
theorem nrm_zero {u : R2} : nrm u ≤ 0 ↔ nrm u = 0 := ⟨fun h => Rat.le_antisymm h (nrm_nonneg u), fun h => by rw [h]; exact Rat.le_refl⟩
theorem round0 {c f l : P2} {P : R2} (hne : f ≠ l) : spokedR P (.round c 0 f l) ↔ nrm (difR P c) ≠ 0 ∧ crsR (difR P c) f ≤ 0 ∧ 0 ≤ crsR (difR P c) l := by
  show (¬ nrm (difR P c) ≤ ((0 * 0 : Int) : Rat) ∧ (f = l ∨ (crsR (difR P c) f ≤ 0 ∧ 0 ≤ crsR (difR P c) l))) ↔ _
  rw [show ((0 * 0 : Int) : Rat) = 0 from rfl, nrm_zero]
  exact ⟨fun h => ⟨h.1, h.2.resolve_left hne⟩, fun h => ⟨h.1, .inr h.2⟩⟩
theorem fd0 {c f l : P2} {P : R2} : fdR P (.round c 0 f l) = canon 0 1 (nrm (difR P c)) := rfl
theorem dist_spot (p : P2) (P : R2) : distR (.spot p) P = canon 0 1 (nrm (difR P p)) := by
  refine find_all (fun f hf hs => ?_) fun h => ?_
  · have : f = .round p 0 (1, 0) (1, 0) := List.mem_singleton.mp hf
    subst this
    rfl
  · have h := h (.round p 0 (1, 0) (1, 0)) (List.mem_singleton.mpr rfl)
    have : nrm (difR P p) = 0 := by
      by_cases z : nrm (difR P p) ≤ 0
      · exact nrm_zero.mp z
      · exact absurd ⟨z, .inl rfl⟩ h
    rw [this, canon_zero]
theorem neg_sign {G x y : Rat} (g : 0 < G) (h : G * x = y) : (x ≤ 0 ↔ y ≤ 0) ∧ (0 ≤ x ↔ 0 ≤ y) := by
  subst h
  constructor
  · rw [← Rat.not_lt, ← Rat.not_lt, Rat.mul_pos_iff_of_pos_left g]
  · rw [← Rat.not_lt, ← Rat.not_lt, Rat.mul_neg_iff_of_pos_left g]
/-- the ends of a straight piece -/
theorem Lay.zero {a b : P2} {P : R2} {G L : Int} {C t : Rat} (h : Lay a b P G L C t) (h1 : ¬ (0 < C ∧ 0 ≤ t ∧ t ≤ L)) (h2 : ¬ (C < 0 ∧ 0 ≤ t ∧ t ≤ L)) (h3 : ¬ (nrm (difR P b) ≠ 0 ∧ (L : Rat) ≤ t)) (h4 : ¬ (nrm (difR P a) ≠ 0 ∧ t ≤ 0)) : byR a b P = 0 := by
  have l0 := h.lr
  rw [h.by]
  split
  · by_cases z : nrm (difR P a) = 0
    · exact z
    · exact absurd ⟨z, by assumption⟩ h4
  split
  · by_cases z : nrm (difR P b) = 0
    · exact z
    · exact absurd ⟨z, by assumption⟩ h3
  · have c0 : C = 0 := by
      by_cases z : 0 < C
      · exact absurd ⟨z, by grind, by grind⟩ h1
      by_cases y : C < 0
      · exact absurd ⟨y, by grind, by grind⟩ h2
      · exact Rat.le_antisymm (Rat.not_lt.mp z) (Rat.not_lt.mp y)
    rw [c0, Rat.zero_mul, Rat.div_def, Rat.zero_mul]
theorem dist_cord {p q : P2} (ht : GoodTh (.cord p q)) (P : R2) : distR (.cord p q) P = canon 0 1 (byR p q P) := by
  obtain ⟨hp, hq, hne, hw⟩ := ht
  obtain ⟨G, L, C, t, h⟩ := lay_of hne P
  obtain ⟨G', k⟩ := h.flip hne
  have l0 := h.lr
  have o1 := outw_ok hne hp hq hw
  have o2 := outw_ok (Ne.symm hne) hq hp (by rw [far_comm]; exact hw)
  have sq : spokedR P (.round q 0 (outw p q) (outw q p)) ↔ nrm (difR P q) ≠ 0 ∧ (L : Rat) ≤ t := by
    rw [round0 (outw_ne hne), (neg_sign h.gr h.cb).1, (neg_sign k.gr k.ca).2]
    constructor
    · rintro ⟨a, b, c⟩
      exact ⟨a, by grind⟩
    · rintro ⟨a, b⟩
      exact ⟨a, by grind, by grind⟩
  have sp : spokedR P (.round p 0 (outw q p) (outw p q)) ↔ nrm (difR P p) ≠ 0 ∧ t ≤ 0 := by
    rw [round0 (Ne.symm (outw_ne hne)), (neg_sign k.gr k.cb).1, (neg_sign h.gr h.ca).2]
    constructor
    · rintro ⟨a, b, c⟩
      exact ⟨a, by grind⟩
    · rintro ⟨a, b⟩
      exact ⟨a, by grind, by grind⟩
  refine find_all (fun f hf hs => ?_) fun hn => ?_
  · simp only [facesL, List.mem_cons, List.not_mem_nil, or_false] at hf
    rcases hf with rfl | rfl | rfl | rfl
    · exact h.side_dist o1 hs
    · rw [fd0, h.by, if_neg (by have := sq.mp hs; grind), if_pos (sq.mp hs).2]
    · rw [← byR_comm hne]
      exact k.side_dist o2 hs
    · rw [fd0, h.by, if_pos (sp.mp hs).2]
  · have m : ∀ f, f ∈ facesL (.cord p q) → ¬ spokedR P f := hn
    simp only [facesL, List.mem_cons, List.not_mem_nil, or_false] at m
    have z := h.zero (fun z => m _ (.inl rfl) (h.side.mpr z)) (fun z => m _ (.inr (.inr (.inl rfl))) (k.side.mpr (by grind))) (fun z => m _ (.inr (.inl rfl)) (sq.mpr z)) (fun z => m _ (.inr (.inr (.inr rfl))) (sp.mpr z))
    rw [z, canon_zero]
end Ld

namespace Ld
open PySem PySem.Spec PyProof.Rows L2 Bl Lb
/-! ### how far from a bow: plain -/
section
variable {R E1 E2 x y C t n : Rat}
theorem key_on (hR : 0 < R) (h1 : E1 < 0) (h2 : E2 ≤ 0) (eC : R * C = x * E2 - y * E1) (et : R * t = x * E1 + y * E2) (hy : 0 ≤ y) (ht : t ≤ 0) (hC : C ≤ 0) (hx : x < 0) : False := by
  have a1 : 0 ≤ x * E2 := by
    have := Rat.mul_nonneg (show 0 ≤ -x by grind) (show 0 ≤ -E2 by grind)
    grind
  have a2 : 0 ≤ -(y * E1) := by
    have := Rat.mul_nonneg hy (show 0 ≤ -E1 by grind)
    grind
  have a3 : R * C ≤ 0 := by
    have := Rat.mul_nonneg (Rat.le_of_lt hR) (show 0 ≤ -C by grind)
    grind
  have a4 : y * E1 = 0 := by grind
  have y0 : y = 0 := by
    rcases Rat.mul_eq_zero.mp a4 with z | z
    · exact z
    · rw [z] at h1
      exact absurd h1 (by decide)
  rw [y0] at et
  have a5 : 0 < (-x) * (-E1) := Rat.mul_pos (by grind) (by grind)
  have a6 : R * t ≤ 0 := by
    have := Rat.mul_nonneg (Rat.le_of_lt hR) (show 0 ≤ -t by grind)
    grind
  grind
theorem key_a (hR : 0 < R) (h1 : E1 < 0) (h2 : E2 ≤ 0) (eC : R * C = x * E2 - y * E1) (et : R * t = x * E1 + y * E2) (hy : y < 0) (ht : t ≤ 0) (hC : 0 < C) : False := by
  have a1 : 0 < y * E1 := by
    have := Rat.mul_pos (show 0 < -y by grind) (show 0 < -E1 by grind)
    grind
  have a2 : 0 ≤ y * E2 := by
    have := Rat.mul_nonneg (show 0 ≤ -y by grind) (show 0 ≤ -E2 by grind)
    grind
  have a3 : R * t ≤ 0 := by
    have := Rat.mul_nonneg (Rat.le_of_lt hR) (show 0 ≤ -t by grind)
    grind
  have x0 : 0 ≤ x := by
    rw [← Rat.not_lt]
    intro z
    have := Rat.mul_pos (show 0 < -x by grind) (show 0 < -E1 by grind)
    grind
  have a4 : 0 ≤ -(x * E2) := by
    have := Rat.mul_nonneg x0 (show 0 ≤ -E2 by grind)
    grind
  have a5 := Rat.mul_pos hR hC
  grind
theorem key_b (hR : 0 < R) (h1 : E1 < 0) (h2 : E2 ≤ 0) (eC : R * C = x * E2 - y * E1) (et : R * t = x * E1 + y * E2) (hy : 0 < y) (ht : 0 < t) (hC : C ≤ 0) : False := by
  have a1 : 0 < -(y * E1) := by
    have := Rat.mul_pos hy (show 0 < -E1 by grind)
    grind
  have a2 : 0 ≤ -(y * E2) := by
    have := Rat.mul_nonneg (Rat.le_of_lt hy) (show 0 ≤ -E2 by grind)
    grind
  have a3 := Rat.mul_pos hR ht
  have x0 : x ≤ 0 := by
    rw [← Rat.not_lt]
    intro z
    have := Rat.mul_pos z (show 0 < -E1 by grind)
    grind
  have a4 : 0 ≤ x * E2 := by
    have := Rat.mul_nonneg (show 0 ≤ -x by grind) (show 0 ≤ -E2 by grind)
    grind
  have a5 : R * C ≤ 0 := by
    have := Rat.mul_nonneg (Rat.le_of_lt hR) (show 0 ≤ -C by grind)
    grind
  grind
end
/-- what a bow and a place are to one another: in numbers -/
structure BL (c p q : P2) (P : R2) (R E1 E2 x y X Y : Rat) (G L : Int) (C t : Rat) : Prop where
  lay : Lay q p P G L C t
  r0 : 0 < R
  e1 : E1 < 0
  e2 : E2 ≤ 0
  eR : R = (dot (dif p c) (dif p c) : Int)
  ey : y = - crsR (difR P c) (dif q c)
  eY : Y = crsR (difR P c) (dif p c)
  c1 : R * C = x * E2 - y * E1
  t1 : R * t = x * E1 + y * E2
  c2 : R * C = X * E2 - Y * E1
  t2 : R * (L - t) = X * E1 + Y * E2
  u1 : nrm (difR P c) - R = 2 * x + nrm (difR P q)
  u2 : nrm (difR P c) - R = 2 * X + nrm (difR P p)
  c3 : C = y + Y - E2
  u3 : nrm (difR P c) * (E2 * E2) = R * (y * y + Y * Y) + 2 * y * Y * (E1 + R)
  xb : dotR (difR P c) (dif q c) = x + R
  xa : dotR (difR P c) (dif p c) = X + R
  lb : nrm (difR P c) * R = (x + R) * (x + R) + y * y
  la : nrm (difR P c) * R = (X + R) * (X + R) + Y * Y
theorem bl_of {c p q : P2} (h : BowOk c p q) (P : R2) : ∃ (R E1 E2 x y X Y : Rat) (G L : Int) (C t : Rat), BL c p q P R E1 E2 x y X Y G L C t := by
  obtain ⟨G, L, C, t, l⟩ := lay_of (Ne.symm h.ne) P
  have eq : dot (dif p c) (dif p c) = dot (dif q c) (dif q c) := by
    have := h.eq
    rw [far_comm c p, far_comm c q] at this
    exact this
  have np := (BowOk.np h).1
  have R0 : 0 < dot (dif p c) (dif p c) := dot_pos (dif_ne np)
  have dd : dif p q = ((dif p c).1 - (dif q c).1, (dif p c).2 - (dif q c).2) := by
    unfold dif
    exact Prod.ext (by dsimp only; omega) (by dsimp only; omega)
  have lp : 0 < dot (dif p q) (dif p q) := dot_pos (dif_ne h.ne)
  have lexp : dot (dif p q) (dif p q) = dot (dif p c) (dif p c) - 2 * dot (dif p c) (dif q c) + dot (dif q c) (dif q c) := by
    rw [dd]
    unfold Lb.dot
    dsimp only
    grind
  have i1 : dot (dif p c) (dif q c) - dot (dif p c) (dif p c) < 0 := by omega
  have i2 : - crs (dif p c) (dif q c) ≤ 0 := by have := h.tn; omega
  have rR : ((dot (dif p c) (dif p c) : Int) : Rat) = (dif p c).1 * (dif p c).1 + (dif p c).2 * (dif p c).2 := by
    unfold Lb.dot
    rw [Rat.intCast_add, Rat.intCast_mul, Rat.intCast_mul]
  have rR2 : ((dot (dif p c) (dif p c) : Int) : Rat) = (dif q c).1 * (dif q c).1 + (dif q c).2 * (dif q c).2 := by
    rw [eq]
    unfold Lb.dot
    rw [Rat.intCast_add, Rat.intCast_mul, Rat.intCast_mul]
  have rD : ((dot (dif p c) (dif q c) : Int) : Rat) = (dif p c).1 * (dif q c).1 + (dif p c).2 * (dif q c).2 := by
    unfold Lb.dot
    rw [Rat.intCast_add, Rat.intCast_mul, Rat.intCast_mul]
  have rX : ((crs (dif p c) (dif q c) : Int) : Rat) = (dif p c).1 * (dif q c).2 - (dif p c).2 * (dif q c).1 := by
    unfold Lb.crs
    rw [Rat.intCast_sub, Rat.intCast_mul, Rat.intCast_mul]
  have q1 : (difR P q).1 = (difR P c).1 - (dif q c).1 := by
    unfold difR dif
    dsimp only
    rw [Rat.intCast_sub]
    grind
  have q2 : (difR P q).2 = (difR P c).2 - (dif q c).2 := by
    unfold difR dif
    dsimp only
    rw [Rat.intCast_sub]
    grind
  have p1 : (difR P p).1 = (difR P c).1 - (dif p c).1 := by
    unfold difR dif
    dsimp only
    rw [Rat.intCast_sub]
    grind
  have p2 : (difR P p).2 = (difR P c).2 - (dif p c).2 := by
    unfold difR dif
    dsimp only
    rw [Rat.intCast_sub]
    grind
  have w1 : ((dif p q).1 : Rat) = (dif p c).1 - (dif q c).1 := by rw [dd, ← Rat.intCast_sub]
  have w2 : ((dif p q).2 : Rat) = (dif p c).2 - (dif q c).2 := by rw [dd, ← Rat.intCast_sub]
  have rL : (L : Rat) = (dif p q).1 * (dif p q).1 + (dif p q).2 * (dif p q).2 := by
    rw [l.eL]
    unfold Lb.dot
    rw [Rat.intCast_add, Rat.intCast_mul, Rat.intCast_mul]
  have hC := l.eC
  have ht := l.et
  unfold crsR at hC
  unfold dotR at ht
  rw [q1, q2, w1, w2] at hC ht
  rw [w1, w2] at rL
  refine ⟨_, ((dot (dif p c) (dif q c) - dot (dif p c) (dif p c) : Int) : Rat), ((- crs (dif p c) (dif q c) : Int) : Rat), dotR (difR P q) (dif q c), _, dotR (difR P p) (dif p c), _, G, L, C, t, l, Rat.intCast_pos.mpr R0, Rat.intCast_neg_iff.mpr i1, ?_, rfl, rfl, rfl, ?_, ?_, ?_, ?_, ?_, ?_, ?_, ?_, ?_, ?_, ?_, ?_⟩
  · rw [← Rat.not_lt, Rat.intCast_pos]
    omega
  all_goals
    try rw [Rat.intCast_sub]
    try rw [Rat.intCast_neg]
    try rw [rD]
    try rw [rX]
    try unfold crsR
    try unfold dotR
    try unfold nrm
    try rw [q1, q2]
    try rw [p1, p2]
    generalize ((dif p c).1 : Rat) = a1 at *
    generalize ((dif p c).2 : Rat) = a2 at *
    generalize ((dif q c).1 : Rat) = b1 at *
    generalize ((dif q c).2 : Rat) = b2 at *
    generalize ((dot (dif p c) (dif p c) : Int) : Rat) = RR at *
    grind
theorem low_dir {a : P2} (ha : a ≠ (0, 0)) : ∃ g : Int, 0 < g ∧ a.1 = g * (low a).1 ∧ a.2 = g * (low a).2 := ⟨_, gcd_pos' ha, (low_mul ha).1, (low_mul ha).2⟩
theorem crsR_low {a : P2} (ha : a ≠ (0, 0)) (u : R2) : (crsR u (low a) ≤ 0 ↔ crsR u a ≤ 0) ∧ (0 ≤ crsR u (low a) ↔ 0 ≤ crsR u a) := by
  obtain ⟨g, g0, h1, h2⟩ := low_dir ha
  refine neg_sign (G := g) (Rat.intCast_pos.mpr g0) ?_
  unfold crsR
  rw [h1, h2, Rat.intCast_mul, Rat.intCast_mul]
  grind
theorem crsR_shift (P : R2) (q c : P2) : crsR (difR P q) (dif q c) = crsR (difR P c) (dif q c) := by
  unfold crsR difR dif
  dsimp only
  rw [Rat.intCast_sub, Rat.intCast_sub]
  grind
def bowR (c p q : P2) (P : R2) : Rt :=
  if nrm (difR P c) ≤ (dot (dif p c) (dif p c) : Int) ∧ crsR (difR P q) (dif p q) ≤ 0 then ⟨0, 0, 0⟩
  else if crsR (difR P c) (dif p c) ≤ 0 ∧ 0 ≤ crsR (difR P c) (dif q c) ∧ ((dot (dif p c) (dif p c) : Int) : Rat) < nrm (difR P c) then canon ((0 - isq (dot (dif p c) (dif p c)).toNat : Int) : Rat) 1 (nrm (difR P c))
  else canon 0 1 (byR p q P)
theorem low_ne {a b : P2} (ha : a ≠ (0, 0)) (hb : b ≠ (0, 0)) (e : dot a a = dot b b) (hne : a ≠ b) : low a ≠ low b := fun z => by
  obtain ⟨g, g0, h1, h2⟩ := low_dir ha
  obtain ⟨k, k0, h3, h4⟩ := low_dir hb
  rw [← z] at h3 h4
  have d0 := dot_pos ha
  have e1 : dot a a = g * g * dot (low a) (low a) := by
    conv => lhs; unfold Lb.dot; rw [h1, h2]
    unfold Lb.dot
    grind
  have e2 : dot b b = k * k * dot (low a) (low a) := by
    conv => lhs; unfold Lb.dot; rw [h3, h4]
    unfold Lb.dot
    grind
  have gg := Int.mul_pos g0 g0
  have dl : 0 < dot (low a) (low a) := by
    have nn := dot_nonneg (low a)
    rcases Int.lt_or_le 0 (dot (low a) (low a)) with y | y
    · exact y
    · rw [show dot (low a) (low a) = 0 by omega, Int.mul_zero] at e1
      omega
  have e3 : g * g = k * k := Int.eq_of_mul_eq_mul_right (by omega : dot (low a) (low a) ≠ 0) (by rw [← e1, ← e2, e])
  have e4 : g = k := by
    have : (g - k) * (g + k) = 0 := by grind
    rcases Int.mul_eq_zero.mp this with y | y <;> omega
  rw [← e4] at h3 h4
  exact hne (Prod.ext (by rw [h1, h3]) (by rw [h2, h4]))
theorem low_outw {a : P2} {q p : P2} (ha : a ≠ (0, 0)) (hne : q ≠ p) (h : dot a (dif p q) ≠ 0) : low a ≠ outw q p := fun z => by
  obtain ⟨g, g0, h1, h2⟩ := low_dir ha
  obtain ⟨G, G0, h3, h4⟩ := side_rel hne
  rw [← z] at h3 h4
  have : G * dot a (dif p q) = 0 := by
    have h5 : (dif p q).1 = - (G * (low a).2) := by omega
    unfold Lb.dot
    rw [h1, h2, h3, h5]
    grind
  rcases Int.mul_eq_zero.mp this with y | y
  · omega
  · exact h y
theorem dist_bow {c p q : P2} (h : BowOk c p q) (hq : Bd q) (hp : Bd p) (P : R2) : distR (.bow c p q) P = bowR c p q P := by
  obtain ⟨R, E1, E2, x, y, X, Y, G, L, C, t, b⟩ := bl_of h P
  have l0 := b.lay.lr
  have np := BowOk.np h
  have a0 : dif p c ≠ (0, 0) := dif_ne np.1
  have b0 : dif q c ≠ (0, 0) := dif_ne np.2
  have eq : dot (dif p c) (dif p c) = dot (dif q c) (dif q c) := by
    have := h.eq
    rw [far_comm c p, far_comm c q] at this
    exact this
  have hne' : dif p c ≠ dif q c := fun z => h.ne (by
    have h1 := congrArg Prod.fst z
    have h2 := congrArg Prod.snd z
    unfold dif at h1 h2
    exact Prod.ext (by dsimp only at h1; omega) (by dsimp only at h2; omega))
  have rr : ((isq (far c p).toNat : Int) * isq (far c p).toNat : Int) = dot (dif p c) (dif p c) := by
    rw [h.wr.isq, far_comm]
    rfl
  have rr2 : far c p = dot (dif p c) (dif p c) := by rw [far_comm]; rfl
  -- what is near is not straight out of the side
  have ab : dot (dif p c) (dif p q) ≠ 0 ∧ dot (dif q c) (dif p q) ≠ 0 := by
    have lp : 0 < dot (dif p q) (dif p q) := dot_pos (dif_ne h.ne)
    have dd : dif p q = ((dif p c).1 - (dif q c).1, (dif p c).2 - (dif q c).2) := by
      unfold dif
      exact Prod.ext (by dsimp only; omega) (by dsimp only; omega)
    have i1 : dot (dif p q) (dif p q) = 2 * dot (dif p c) (dif p q) := by
      rw [dd]
      unfold Lb.dot at *
      dsimp only
      grind
    have i2 : dot (dif p q) (dif p q) = - (2 * dot (dif q c) (dif p q)) := by
      rw [dd]
      unfold Lb.dot at *
      dsimp only
      grind
    exact ⟨by omega, by omega⟩
  have s0 : spokedR P (.round c (isq (far c p).toNat) (low (dif p c)) (low (dif q c))) ↔ R < nrm (difR P c) ∧ Y ≤ 0 ∧ y ≤ 0 := by
    show (¬ nrm (difR P c) ≤ ((isq (far c p).toNat * isq (far c p).toNat : Int) : Rat) ∧ (low (dif p c) = low (dif q c) ∨ (crsR (difR P c) (low (dif p c)) ≤ 0 ∧ 0 ≤ crsR (difR P c) (low (dif q c))))) ↔ _
    rw [rr, ← b.eR, (crsR_low a0 _).1, (crsR_low b0 _).2, Rat.not_le, b.ey, b.eY]
    constructor
    · rintro ⟨h1, h2⟩
      obtain ⟨h3, h4⟩ := h2.resolve_left (low_ne a0 b0 eq hne')
      exact ⟨h1, h3, by grind⟩
    · rintro ⟨h1, h3, h4⟩
      exact ⟨h1, .inr ⟨h3, by grind⟩⟩
  have sq : spokedR P (.round q 0 (low (dif q c)) (outw q p)) ↔ nrm (difR P q) ≠ 0 ∧ 0 ≤ y ∧ t ≤ 0 := by
    rw [round0 (low_outw b0 (Ne.symm h.ne) ab.2), (crsR_low b0 _).1, crsR_shift, (neg_sign b.lay.gr b.lay.ca).2, b.ey]
    constructor
    · rintro ⟨h1, h2, h3⟩
      exact ⟨h1, by grind, by grind⟩
    · rintro ⟨h1, h2, h3⟩
      exact ⟨h1, by grind, by grind⟩
  have sp : spokedR P (.round p 0 (outw q p) (low (dif p c))) ↔ nrm (difR P p) ≠ 0 ∧ (L : Rat) ≤ t ∧ 0 ≤ Y := by
    rw [round0 (Ne.symm (low_outw a0 (Ne.symm h.ne) ab.1)), (crsR_low a0 _).2, crsR_shift, (neg_sign b.lay.gr b.lay.cb).1, b.eY]
    constructor
    · rintro ⟨h1, h2, h3⟩
      exact ⟨h1, by grind, h3⟩
    · rintro ⟨h1, h2, h3⟩
      exact ⟨h1, by grind, h3⟩
  have ss := b.lay.side
  have hn := nrm_nonneg (difR P q)
  have hn2 := nrm_nonneg (difR P p)
  have e1 : bowR c p q P = if nrm (difR P c) ≤ R ∧ C ≤ 0 then ⟨0, 0, 0⟩ else if Y ≤ 0 ∧ y ≤ 0 ∧ R < nrm (difR P c) then canon ((0 - isq (far c p).toNat : Int) : Rat) 1 (nrm (difR P c)) else canon 0 1 (byR p q P) := by
    unfold bowR
    rw [← b.eR, ← b.lay.eC, ← b.eY, rr2]
    have : (0 ≤ crsR (difR P c) (dif q c)) = (y ≤ 0) := by
      rw [b.ey]
      exact propext ⟨fun z => by grind, fun z => by grind⟩
    simp only [this]
  unfold distR firstR facesL
  rw [List.find?_cons]
  by_cases h0 : spokedR P (.round c (isq (far c p).toNat) (low (dif p c)) (low (dif q c)))
  · rw [decide_eq_true h0]
    obtain ⟨h1, h2, h3⟩ := s0.mp h0
    rw [e1, if_neg (fun z => Rat.not_lt.mpr z.1 h1), if_pos ⟨h2, h3, h1⟩]
    rfl
  rw [decide_eq_false h0]
  have hs : ¬ (Y ≤ 0 ∧ y ≤ 0 ∧ R < nrm (difR P c)) := fun z => h0 (s0.mpr ⟨z.2.2, z.1, z.2.1⟩)
  rw [if_neg hs] at e1
  have nxt : ∀ {x n : Rat}, nrm (difR P c) - R = 2 * x + n → 0 ≤ n → n ≠ 0 → nrm (difR P c) ≤ R → x < 0 := fun {x n} h1 h2 h3 h4 => by
    have : 0 < n := Rat.lt_of_le_of_ne h2 (Ne.symm h3)
    grind
  refine find_all (fun f hf hsp => ?_) fun hno => ?_
  · have off : ¬ (nrm (difR P c) ≤ R ∧ C ≤ 0) ∧ fdR P f = canon 0 1 (byR q p P) := by
      simp only [List.mem_cons, List.not_mem_nil, or_false] at hf
      rcases hf with rfl | rfl | rfl
      · obtain ⟨h1, h2, h3⟩ := sq.mp hsp
        refine ⟨fun z => key_on b.r0 b.e1 b.e2 b.c1 b.t1 h2 h3 z.2 (nxt b.u1 hn h1 z.1), ?_⟩
        rw [fd0, b.lay.by, if_pos h3]
      · obtain ⟨h1, h2, h3⟩ := ss.mp hsp
        exact ⟨fun z => Rat.not_lt.mpr z.2 h1, b.lay.side_dist (outw_ok (Ne.symm h.ne) hq hp (by rw [far_comm]; exact h.wd)) hsp⟩
      · obtain ⟨h1, h2, h3⟩ := sp.mp hsp
        refine ⟨fun z => key_on b.r0 b.e1 b.e2 b.c2 b.t2 h3 (by grind) z.2 (nxt b.u2 hn2 h1 z.1), ?_⟩
        rw [fd0, b.lay.by, if_neg (by grind), if_pos h2]
    rw [e1, if_neg off.1, off.2, byR_comm h.ne]
  · rw [e1]
    split
    · rfl
    rename_i off
    simp only [List.mem_cons, List.not_mem_nil, or_false] at hno
    have nq : ¬ (nrm (difR P q) ≠ 0 ∧ 0 ≤ y ∧ t ≤ 0) := fun z => hno _ (.inl rfl) (sq.mpr z)
    have ns : ¬ (0 < C ∧ 0 ≤ t ∧ t ≤ L) := fun z => hno _ (.inr (.inl rfl)) (ss.mpr z)
    have npp : ¬ (nrm (difR P p) ≠ 0 ∧ (L : Rat) ≤ t ∧ 0 ≤ Y) := fun z => hno _ (.inr (.inr rfl)) (sp.mpr z)
    have zero : byR q p P = 0 := by
      by_cases zq : nrm (difR P q) = 0
      · have nu := b.lay.nu
        rw [zq, Rat.zero_mul] at nu
        have s1 := sq_nonneg C
        have s2 := sq_nonneg t
        have t0 : t = 0 := by
          have : t * t = 0 := by grind
          rcases Rat.mul_eq_zero.mp this with z | z <;> exact z
        rw [b.lay.by, if_pos (by rw [t0]; exact Rat.le_refl), zq]
      by_cases zp : nrm (difR P p) = 0
      · have nv := b.lay.nv
        rw [zp, Rat.zero_mul] at nv
        have s1 := sq_nonneg C
        have s2 := sq_nonneg (t - L)
        have t0 : t - L = 0 := by
          have : (t - L) * (t - L) = 0 := by grind
          rcases Rat.mul_eq_zero.mp this with z | z <;> exact z
        rw [b.lay.by, if_neg (by grind), if_pos (by grind), zp]
      exfalso
      by_cases hC : 0 < C
      · by_cases t0 : t ≤ 0
        · have y0 : y < 0 := Rat.not_le.mp fun z => nq ⟨zq, z, t0⟩
          exact key_a b.r0 b.e1 b.e2 b.c1 b.t1 y0 t0 hC
        by_cases t1 : (L : Rat) ≤ t
        · have y0 : Y < 0 := Rat.not_le.mp fun z => npp ⟨zp, t1, z⟩
          exact key_a b.r0 b.e1 b.e2 b.c2 b.t2 y0 (by grind) hC
        · exact ns ⟨hC, by grind, by grind⟩
      · have hC := Rat.not_lt.mp hC
        have far : R < nrm (difR P c) := Rat.not_le.mp fun z => off ⟨z, hC⟩
        by_cases y0 : 0 < y
        · exact key_b b.r0 b.e1 b.e2 b.c1 b.t1 y0 (Rat.not_le.mp fun z => nq ⟨zq, Rat.le_of_lt y0, z⟩) hC
        by_cases y1 : 0 < Y
        · exact key_b b.r0 b.e1 b.e2 b.c2 b.t2 y1 (by
            have : ¬ (L : Rat) ≤ t := fun z => npp ⟨zp, z, Rat.le_of_lt y1⟩
            grind) hC
        · exact hs ⟨Rat.not_lt.mp y1, Rat.not_lt.mp y0, far⟩
    rw [← byR_comm h.ne, zero, canon_zero]
end Ld

namespace Ld
open PySem PySem.Spec PyProof.Rows L2 Bl Lb
/-! ### the faces at a place: plain -/
theorem idx4 (P : R2) (f0 f1 f2 f3 : Fc) : idxF P 0 [f0, f1, f2, f3] = (if spokedR P f0 then [0] else []) ++ ((if spokedR P f1 then [1] else []) ++ ((if spokedR P f2 then [2] else []) ++ (if spokedR P f3 then [3] else []))) := by
  unfold idxF idxF idxF idxF idxF
  split <;> split <;> split <;> split <;> rfl
theorem no {p a : Prop} (h : p ↔ a) (n : ¬ a) : p ↔ false = true := ⟨fun z => absurd (h.mp z) n, fun z => by cases z⟩
theorem yes {p a : Prop} (h : p ↔ a) (y : a) : p ↔ true = true := ⟨fun _ => rfl, fun _ => h.mpr y⟩
theorem idx4_of {P : R2} {f0 f1 f2 f3 : Fc} (b0 b1 b2 b3 : Bool) (h0 : spokedR P f0 ↔ b0 = true) (h1 : spokedR P f1 ↔ b1 = true) (h2 : spokedR P f2 ↔ b2 = true) (h3 : spokedR P f3 ↔ b3 = true) : idxF P 0 [f0, f1, f2, f3] = (if b0 then [0] else []) ++ ((if b1 then [1] else []) ++ ((if b2 then [2] else []) ++ (if b3 then [3] else []))) := by
  rw [idx4]
  simp only [h0, h1, h2, h3]
theorem perm2 {a b : Int} {ns : List Int} (h : ns.Perm [a, b]) (s : ns.Pairwise (· ≤ ·)) (hab : a < b) : ns = [a, b] := by
  have hl := h.length_eq
  match ns, hl with
  | [x, y], _ =>
    have hx : x ∈ [a, b] := h.mem_iff.mp (List.mem_cons_self ..)
    have ha : a ∈ [x, y] := h.mem_iff.mpr (List.mem_cons_self ..)
    have hb : b ∈ [x, y] := h.mem_iff.mpr (List.mem_cons_of_mem _ (List.mem_cons_self ..))
    have xy : x ≤ y := (List.pairwise_cons.mp s).1 y (List.mem_cons_self ..)
    simp only [List.mem_cons, List.not_mem_nil, or_false] at hx ha hb
    have e1 : x = a := by omega
    have e2 : y = b := by omega
    rw [e1, e2]
/-- what the law finds by a straight piece -/
def OfC (n0 n1 n2 n3 : Int) (C t L : Rat) (ns : List Int) : Prop :=
  ((t < 0 ∨ (t = 0 ∧ C = 0)) ∧ ns = [n0]) ∨
  (¬ (t < 0 ∨ (t = 0 ∧ C = 0)) ∧ (L < t ∨ (t = L ∧ C = 0)) ∧ ns = [n2]) ∨
  (¬ (t < 0 ∨ (t = 0 ∧ C = 0)) ∧ ¬ (L < t ∨ (t = L ∧ C = 0)) ∧ ns.Perm ((if 0 < C then n1 else n3) :: ((if t = 0 then [n0] else []) ++ (if t = L then [n2] else []))) ∧ ns.Pairwise (· ≤ ·))
theorem Lay.nu0 {a b : P2} {P : R2} {G L : Int} {C t : Rat} (h : Lay a b P G L C t) : nrm (difR P a) = 0 ↔ C = 0 ∧ t = 0 := by
  have nu := h.nu
  have l0 := h.lr
  have s1 := sq_nonneg C
  have s2 := sq_nonneg t
  constructor
  · intro z
    rw [z, Rat.zero_mul] at nu
    have c0 : C * C = 0 := by grind
    have t0 : t * t = 0 := by grind
    exact ⟨(Rat.mul_eq_zero.mp c0).elim id id, (Rat.mul_eq_zero.mp t0).elim id id⟩
  · rintro ⟨rfl, rfl⟩
    have : nrm (difR P a) * L = 0 := by rw [← nu, Rat.zero_mul, Rat.add_zero]
    rcases Rat.mul_eq_zero.mp this with y | y
    · exact y
    · rw [y] at l0
      exact absurd l0 (by decide)
theorem Lay.nv0 {a b : P2} {P : R2} {G L : Int} {C t : Rat} (h : Lay a b P G L C t) : nrm (difR P b) = 0 ↔ C = 0 ∧ t = L := by
  have nv := h.nv
  have l0 := h.lr
  have s1 := sq_nonneg C
  have s2 := sq_nonneg (t - L)
  constructor
  · intro z
    rw [z, Rat.zero_mul] at nv
    have c0 : C * C = 0 := by grind
    have t0 : (t - L) * (t - L) = 0 := by grind
    have := (Rat.mul_eq_zero.mp t0).elim id id
    exact ⟨(Rat.mul_eq_zero.mp c0).elim id id, by grind⟩
  · rintro ⟨rfl, rfl⟩
    have : nrm (difR P b) * L = 0 := by rw [← nv, Rat.zero_mul, Rat.sub_self, Rat.zero_mul, Rat.add_zero]
    rcases Rat.mul_eq_zero.mp this with y | y
    · exact y
    · rw [y] at l0
      exact absurd l0 (by decide)
theorem cord_spokes {p q : P2} (hne : p ≠ q) {P : R2} {G L : Int} {C t : Rat} (h : Lay p q P G L C t) :
    (spokedR P (.side p q) ↔ 0 < C ∧ 0 ≤ t ∧ t ≤ L) ∧ (spokedR P (.round q 0 (outw p q) (outw q p)) ↔ ¬ (C = 0 ∧ t = L) ∧ (L : Rat) ≤ t) ∧ (spokedR P (.side q p) ↔ C < 0 ∧ 0 ≤ t ∧ t ≤ L) ∧ (spokedR P (.round p 0 (outw q p) (outw p q)) ↔ ¬ (C = 0 ∧ t = 0) ∧ t ≤ 0) := by
  obtain ⟨G', k⟩ := h.flip hne
  refine ⟨h.side, ?_, ?_, ?_⟩
  · rw [round0 (outw_ne hne), (neg_sign h.gr h.cb).1, (neg_sign k.gr k.ca).2, ← h.nv0]
    constructor
    · rintro ⟨a, b, c⟩
      exact ⟨a, by grind⟩
    · rintro ⟨a, b⟩
      exact ⟨a, by grind, by grind⟩
  · rw [k.side]
    constructor
    · rintro ⟨a, b, c⟩
      exact ⟨by grind, by grind, by grind⟩
    · rintro ⟨a, b, c⟩
      exact ⟨by grind, by grind, by grind⟩
  · rw [round0 (Ne.symm (outw_ne hne)), (neg_sign k.gr k.cb).1, (neg_sign h.gr h.ca).2, ← h.nu0]
    constructor
    · rintro ⟨a, b, c⟩
      exact ⟨a, by grind⟩
    · rintro ⟨a, b⟩
      exact ⟨a, by grind, by grind⟩
theorem bow_spokes {c p q : P2} (h : BowOk c p q) {P : R2} {R E1 E2 x y X Y : Rat} {G L : Int} {C t : Rat} (b : BL c p q P R E1 E2 x y X Y G L C t) :
    (spokedR P (.round c (isq (far c p).toNat) (low (dif p c)) (low (dif q c))) ↔ R < nrm (difR P c) ∧ Y ≤ 0 ∧ y ≤ 0) ∧
    (spokedR P (.round q 0 (low (dif q c)) (outw q p)) ↔ ¬ (C = 0 ∧ t = 0) ∧ 0 ≤ y ∧ t ≤ 0) ∧
    (spokedR P (.side q p) ↔ 0 < C ∧ 0 ≤ t ∧ t ≤ L) ∧
    (spokedR P (.round p 0 (outw q p) (low (dif p c))) ↔ ¬ (C = 0 ∧ t = L) ∧ (L : Rat) ≤ t ∧ 0 ≤ Y) := by
  have l0 := b.lay.lr
  have np := BowOk.np h
  have a0 : dif p c ≠ (0, 0) := dif_ne np.1
  have b0 : dif q c ≠ (0, 0) := dif_ne np.2
  have eq : dot (dif p c) (dif p c) = dot (dif q c) (dif q c) := by
    have := h.eq
    rw [far_comm c p, far_comm c q] at this
    exact this
  have hne' : dif p c ≠ dif q c := fun z => h.ne (by
    have h1 := congrArg Prod.fst z
    have h2 := congrArg Prod.snd z
    unfold dif at h1 h2
    exact Prod.ext (by dsimp only at h1; omega) (by dsimp only at h2; omega))
  have rr : ((isq (far c p).toNat : Int) * isq (far c p).toNat : Int) = dot (dif p c) (dif p c) := by
    rw [h.wr.isq, far_comm]
    rfl
  have rr2 : far c p = dot (dif p c) (dif p c) := by rw [far_comm]; rfl
  -- what is near is not straight out of the side
  have ab : dot (dif p c) (dif p q) ≠ 0 ∧ dot (dif q c) (dif p q) ≠ 0 := by
    have lp : 0 < dot (dif p q) (dif p q) := dot_pos (dif_ne h.ne)
    have dd : dif p q = ((dif p c).1 - (dif q c).1, (dif p c).2 - (dif q c).2) := by
      unfold dif
      exact Prod.ext (by dsimp only; omega) (by dsimp only; omega)
    have i1 : dot (dif p q) (dif p q) = 2 * dot (dif p c) (dif p q) := by
      rw [dd]
      unfold Lb.dot at *
      dsimp only
      grind
    have i2 : dot (dif p q) (dif p q) = - (2 * dot (dif q c) (dif p q)) := by
      rw [dd]
      unfold Lb.dot at *
      dsimp only
      grind
    exact ⟨by omega, by omega⟩
  have s0 : spokedR P (.round c (isq (far c p).toNat) (low (dif p c)) (low (dif q c))) ↔ R < nrm (difR P c) ∧ Y ≤ 0 ∧ y ≤ 0 := by
    show (¬ nrm (difR P c) ≤ ((isq (far c p).toNat * isq (far c p).toNat : Int) : Rat) ∧ (low (dif p c) = low (dif q c) ∨ (crsR (difR P c) (low (dif p c)) ≤ 0 ∧ 0 ≤ crsR (difR P c) (low (dif q c))))) ↔ _
    rw [rr, ← b.eR, (crsR_low a0 _).1, (crsR_low b0 _).2, Rat.not_le, b.ey, b.eY]
    constructor
    · rintro ⟨h1, h2⟩
      obtain ⟨h3, h4⟩ := h2.resolve_left (low_ne a0 b0 eq hne')
      exact ⟨h1, h3, by grind⟩
    · rintro ⟨h1, h3, h4⟩
      exact ⟨h1, .inr ⟨h3, by grind⟩⟩
  have sq : spokedR P (.round q 0 (low (dif q c)) (outw q p)) ↔ ¬ (C = 0 ∧ t = 0) ∧ 0 ≤ y ∧ t ≤ 0 := by
    rw [← b.lay.nu0, round0 (low_outw b0 (Ne.symm h.ne) ab.2), (crsR_low b0 _).1, crsR_shift, (neg_sign b.lay.gr b.lay.ca).2, b.ey]
    constructor
    · rintro ⟨h1, h2, h3⟩
      exact ⟨h1, by grind, by grind⟩
    · rintro ⟨h1, h2, h3⟩
      exact ⟨h1, by grind, by grind⟩
  have sp : spokedR P (.round p 0 (outw q p) (low (dif p c))) ↔ ¬ (C = 0 ∧ t = L) ∧ (L : Rat) ≤ t ∧ 0 ≤ Y := by
    rw [← b.lay.nv0, round0 (Ne.symm (low_outw a0 (Ne.symm h.ne) ab.1)), (crsR_low a0 _).2, crsR_shift, (neg_sign b.lay.gr b.lay.cb).1, b.eY]
    constructor
    · rintro ⟨h1, h2, h3⟩
      exact ⟨h1, by grind, h3⟩
    · rintro ⟨h1, h2, h3⟩
      exact ⟨h1, by grind, h3⟩
  exact ⟨s0, sq, b.lay.side, sp⟩
section
variable {R E1 E2 x y X Y C t L U : Rat}
theorem key_b' (hR : 0 < R) (h1 : E1 < 0) (h2 : E2 ≤ 0) (eC : R * C = x * E2 - y * E1) (et : R * t = x * E1 + y * E2) (hy : 0 < y) (ht : 0 ≤ t) (hC : C ≤ 0) : False := by
  have a1 : 0 < -(y * E1) := by
    have := Rat.mul_pos hy (show 0 < -E1 by grind)
    grind
  have a2 : 0 ≤ -(y * E2) := by
    have := Rat.mul_nonneg (Rat.le_of_lt hy) (show 0 ≤ -E2 by grind)
    grind
  have a3 := Rat.mul_nonneg (Rat.le_of_lt hR) ht
  have x0 : x ≤ 0 := by
    rw [← Rat.not_lt]
    intro z
    have := Rat.mul_pos z (show 0 < -E1 by grind)
    grind
  have a4 : 0 ≤ x * E2 := by
    have := Rat.mul_nonneg (show 0 ≤ -x by grind) (show 0 ≤ -E2 by grind)
    grind
  have a5 : R * C ≤ 0 := by
    have := Rat.mul_nonneg (Rat.le_of_lt hR) (show 0 ≤ -C by grind)
    grind
  grind
end
theorem faces_bow_off {c p q : P2} (h : BowOk c p q) {P : R2} {R E1 E2 x y X Y : Rat} {G L : Int} {C t : Rat} (b : BL c p q P R E1 E2 x y X Y G L C t) (off : ¬ (nrm (difR P c) ≤ R ∧ C ≤ 0)) (hs : ¬ (Y ≤ 0 ∧ y ≤ 0 ∧ R < nrm (difR P c))) {ns : List Int} (o : OfC 1 2 3 9 C t L ns) : idxF P 0 (facesL (.bow c p q)) = ns := by
  obtain ⟨s0, s1, s2, s3⟩ := bow_spokes h b
  have l0 := b.lay.lr
  have hn := b.u1
  have hn2 := b.u2
  have zq : ¬ (C = 0 ∧ t = 0) := fun z => by
    have n0 := b.lay.nu0.mpr z
    have e1 := b.t1
    have e2 := b.c1
    rw [z.1] at e2
    rw [z.2] at e1
    have e3 : x * (E1 * E1 + E2 * E2) = 0 := by grind
    have : x = 0 := by
      rcases Rat.mul_eq_zero.mp e3 with w | w
      · exact w
      · have := Rat.mul_pos (show 0 < -E1 by have := b.e1; grind) (show 0 < -E1 by have := b.e1; grind)
        have := sq_nonneg E2
        grind
    exact off ⟨by grind, by grind⟩
  have zp : ¬ (C = 0 ∧ t = L) := fun z => by
    have n0 := b.lay.nv0.mpr z
    have e1 := b.t2
    have e2 := b.c2
    rw [z.1] at e2
    rw [z.2] at e1
    have e3 : X * (E1 * E1 + E2 * E2) = 0 := by grind
    have : X = 0 := by
      rcases Rat.mul_eq_zero.mp e3 with w | w
      · exact w
      · have := Rat.mul_pos (show 0 < -E1 by have := b.e1; grind) (show 0 < -E1 by have := b.e1; grind)
        have := sq_nonneg E2
        grind
    exact off ⟨by grind, by grind⟩
  have kb1 := fun z1 z2 z3 => key_b' (y := y) (t := t) (C := C) (x := x) b.r0 b.e1 b.e2 b.c1 b.t1 z1 z2 z3
  have kb2 := fun z1 z2 z3 => key_b' (y := Y) (t := L - t) (C := C) (x := X) b.r0 b.e1 b.e2 b.c2 b.t2 z1 z2 z3
  have ka1 := fun z1 z2 z3 => key_a (y := y) (t := t) (C := C) (x := x) b.r0 b.e1 b.e2 b.c1 b.t1 z1 z2 z3
  have ka2 := fun z1 z2 z3 => key_a (y := Y) (t := L - t) (C := C) (x := X) b.r0 b.e1 b.e2 b.c2 b.t2 z1 z2 z3
  have far : C ≤ 0 → R < nrm (difR P c) := fun z => Rat.not_le.mp fun w => off ⟨w, z⟩
  -- where the side is not looked out of
  have low : C ≤ 0 → t < 0 ∨ (L : Rat) < t := fun z => by
    by_cases y0 : 0 < y
    · left
      rw [← Rat.not_le]
      exact fun w => kb1 y0 w z
    by_cases Y0 : 0 < Y
    · right
      rw [← Rat.not_le]
      exact fun w => kb2 Y0 (by grind) z
    · exact absurd ⟨Rat.not_lt.mp Y0, Rat.not_lt.mp y0, far z⟩ hs
  have yq : t ≤ 0 → 0 ≤ y := fun z => by
    rw [← Rat.not_lt]
    intro w
    by_cases hC : 0 < C
    · exact ka1 w z hC
    · have hC := Rat.not_lt.mp hC
      by_cases Y0 : 0 < Y
      · exact kb2 Y0 (by grind) hC
      · exact hs ⟨Rat.not_lt.mp Y0, Rat.le_of_lt w, far hC⟩
  have yp : (L : Rat) ≤ t → 0 ≤ Y := fun z => by
    rw [← Rat.not_lt]
    intro w
    by_cases hC : 0 < C
    · exact ka2 w (by grind) hC
    · have hC := Rat.not_lt.mp hC
      by_cases y0 : 0 < y
      · exact kb1 y0 (by grind) hC
      · exact hs ⟨Rat.le_of_lt w, Rat.not_lt.mp y0, far hC⟩
  have n0 : ¬ (R < nrm (difR P c) ∧ Y ≤ 0 ∧ y ≤ 0) := fun z => hs ⟨z.2.1, z.2.2, z.1⟩
  clear kb1 kb2 ka1 ka2 far hn hn2 off hs
  unfold facesL
  rcases o with ⟨z, rfl⟩ | ⟨v, z, rfl⟩ | ⟨v, z, pm, so⟩
  · have t0 : t < 0 := by grind
    have := yq (Rat.le_of_lt t0)
    rw [idx4_of false true false false (no s0 n0) (yes s1 (by grind)) (no s2 (by grind)) (no s3 (by grind))]
    rfl
  · have t0 : (L : Rat) < t := by grind
    have := yp (Rat.le_of_lt t0)
    rw [idx4_of false false false true (no s0 n0) (no s1 (by grind)) (no s2 (by grind)) (yes s3 (by grind))]
    rfl
  · have t0 : 0 ≤ t := by grind
    have t1 : t ≤ L := by grind
    have hC : 0 < C := Rat.not_le.mp fun w => by rcases low w with r | r <;> grind
    rw [if_pos hC] at pm
    by_cases h1 : t = 0
    · have := yq (by grind)
      rw [if_pos h1, if_neg (by grind)] at pm
      rw [idx4_of false true true false (no s0 n0) (yes s1 (by grind)) (yes s2 (by grind)) (no s3 (by grind))]
      exact (perm2 (pm.trans (.swap ..)) so (by decide)).symm
    rw [if_neg h1] at pm
    by_cases h2 : t = L
    · have := yp (by grind)
      rw [if_pos h2] at pm
      rw [idx4_of false false true true (no s0 n0) (no s1 (by grind)) (yes s2 (by grind)) (yes s3 (by grind))]
      exact (perm2 pm so (by decide)).symm
    · rw [if_neg h2] at pm
      rw [idx4_of false false true false (no s0 n0) (no s1 (by grind)) (yes s2 (by grind)) (no s3 (by grind))]
      exact (List.perm_singleton.mp pm).symm
end Ld

/-! the plane in real numbers: things as sets, what lies behind a face, feet -/
namespace Rs
open Lb Ld Rl
abbrev o (i : Int) : Real := Real.of ((i : Int) : Rat)
theorem o_add (i j : Int) : o (i + j) = o i + o j := ofI_add i j
theorem o_sub (i j : Int) : o (i - j) = o i - o j := of_int_sub i j
theorem o_mul (i j : Int) : o (i * j) = o i * o j := of_int_mul i j
theorem o_le {i j : Int} : o i ≤ o j ↔ i ≤ j := ofI_le
theorem o_0 : o 0 = 0 := of_int0
theorem o_nn {i : Int} (h : 0 ≤ i) : 0 ≤ o i := by rw [← o_0, o_le]; exact h
theorem o_pos {i : Int} (h : 0 < i) : 0 < o i := int_pos.mpr h
/-- what belongs to a thing -/
def InS : Th → Real → Real → Prop
  | .spot p, x, y => x = o p.1 ∧ y = o p.2
  | .cord p q, x, y => ∃ s : Real, 0 ≤ s ∧ s ≤ 1 ∧ x = o p.1 + s * (o q.1 - o p.1) ∧ y = o p.2 + s * (o q.2 - o p.2)
  | .bow c p q, x, y => (x - o c.1) * (x - o c.1) + (y - o c.2) * (y - o c.2) ≤ o (far c p) ∧ (o q.1 - o p.1) * (y - o p.2) - (o q.2 - o p.2) * (x - o p.1) ≤ 0
def coneR (f l : P2) (u v : Real) : Prop := f = l ∨ (0 ≤ o f.1 * v - o f.2 * u ∧ 0 ≤ u * o l.2 - v * o l.1)
theorem nn_or (a : Real) : 0 ≤ a ∨ a ≤ 0 := by
  rcases Real.tri' a 0 with z | z | z
  · right; grind
  · left; grind
  · left; grind
theorem cauchy {x y u v r n : Real} (hr : 0 ≤ r) (hn : 0 ≤ n) (h : x * x + y * y ≤ r * r) (hn2 : n * n = u * u + v * v) : x * u + y * v ≤ r * n := by
  have rn := mul_nn' hr hn
  rcases nn_or (x * u + y * v) with d | d
  · refine ge_of_sq rn d ?_
    have a := mul_nn' (show 0 ≤ r * r - (x * x + y * y) by grind) (show 0 ≤ n * n from Real.sq_nn n)
    have b := Real.sq_nn (x * v - y * u)
    have e : (x * u + y * v) * (x * u + y * v) = (x * x + y * y) * (u * u + v * v) - (x * v - y * u) * (x * v - y * u) := by grind
    rw [e, ← hn2]
    grind
  · grind
/-- what may be left out on both sides -/
theorem le_of_mul {a b c : Real} (hc : 0 < c) (h : a * c ≤ b * c) : a ≤ b := by
  rcases Real.tri' b a with z | z | z
  · have := Real.mul_pos (show 0 < a - b by grind) hc
    grind
  · grind
  · grind
theorem eq_of_mul {a b c : Real} (hc : 0 < c) (h : a * c = b * c) : a = b := by
  rcases Real.tri' a b with z | z | z
  · have := Real.mul_pos (show 0 < b - a by grind) hc
    grind
  · exact z
  · have := Real.mul_pos (show 0 < a - b by grind) hc
    grind
/-- the side of a bow's chord, as its outward direction tells -/
theorem out_rel {a b : P2} (hne : a ≠ b) : ∃ G : Real, 0 < G ∧ o b.2 - o a.2 = G * o (outw a b).1 ∧ o a.1 - o b.1 = G * o (outw a b).2 := by
  obtain ⟨G, g0, e1, e2⟩ := side_rel hne
  refine ⟨o G, o_pos g0, ?_, ?_⟩
  · rw [← o_sub, ← o_mul, ← e1]; rfl
  · rw [← o_sub, ← o_mul, ← e2, show a.1 - b.1 = 0 - (dif b a).1 by unfold dif; dsimp only; omega]
theorem low_rel {a : P2} (h : a ≠ (0, 0)) : ∃ g : Real, 0 < g ∧ o a.1 = g * o (low a).1 ∧ o a.2 = g * o (low a).2 := by
  obtain ⟨g, g0, e1, e2⟩ := low_dir h
  exact ⟨o g, o_pos g0, by rw [← o_mul, ← e1], by rw [← o_mul, ← e2]⟩
/-- a bow in real numbers, its centre taken off -/
structure Bw (c p q : P2) (a b d e R r : Real) : Prop where
  ea : o p.1 - o c.1 = a
  eb : o p.2 - o c.2 = b
  ed : o q.1 - o c.1 = d
  ee : o q.2 - o c.2 = e
  eR : o (far c p) = R
  hp : a * a + b * b = R
  hq : d * d + e * e = R
  er : o (isq (far c p).toNat : Int) = r
  r0 : 0 < r
  rr : r * r = R
  tn : 0 ≤ a * e - b * d
  R0 : 0 < R
  ne : 0 < R - (a * d + b * e)
theorem bw_of {c p q : P2} (h : BowOk c p q) : ∃ a b d e R r, Bw c p q a b d e R r := by
  obtain ⟨np, nq⟩ := h.np
  have f1 : o (far c p) = (o p.1 - o c.1) * (o p.1 - o c.1) + (o p.2 - o c.2) * (o p.2 - o c.2) := by
    rw [far_eq, o_add, o_mul, o_mul, o_sub, o_sub]; grind
  have f2 : o (far c q) = (o q.1 - o c.1) * (o q.1 - o c.1) + (o q.2 - o c.2) * (o q.2 - o c.2) := by
    rw [far_eq, o_add, o_mul, o_mul, o_sub, o_sub]; grind
  have f3 : o (far p q) = (o p.1 - o q.1) * (o p.1 - o q.1) + (o p.2 - o q.2) * (o p.2 - o q.2) := by
    rw [far_eq, o_add, o_mul, o_mul, o_sub, o_sub]
  have d3 : 0 < far p q := by
    have := far_nonneg p q
    have : far p q ≠ 0 := fun z => h.ne (far_zero z)
    omega
  have d1 : 0 < far c p := by
    have := far_nonneg c p
    have : far c p ≠ 0 := fun z => np (far_zero z).symm
    omega
  obtain ⟨r, r0, rr⟩ := h.wr
  have ri : (isq (far c p).toNat : Int) = r := by
    obtain ⟨m, rfl⟩ := Int.eq_ofNat_of_zero_le r0
    rw [rr, show ((m : Int) * (m : Int)).toNat = m * m by rw [← Int.natCast_mul, Int.toNat_natCast], isq_sq]
  have rp : 0 < r := by
    rcases Int.lt_or_le 0 r with z | z
    · exact z
    · have : r = 0 := by omega
      rw [this] at rr
      omega
  have tn := o_nn h.tn
  unfold crs dif at tn
  dsimp only at tn
  rw [o_sub, o_mul, o_mul, o_sub, o_sub, o_sub, o_sub] at tn
  have e2 := congrArg o h.eq
  have dp := o_pos d3
  have dc := o_pos d1
  have rR := congrArg o rr
  rw [o_mul] at rR
  exact ⟨_, _, _, _, _, _, rfl, rfl, rfl, rfl, rfl, f1.symm, by rw [e2]; exact f2.symm, rfl, by rw [ri]; exact o_pos rp, by rw [ri]; exact rR.symm, tn, dc, by grind⟩
end Rs

namespace Rs
open Lb Ld Rl
theorem coneR_ne {f l : P2} {u v : Real} (h : coneR f l u v) (ne : f ≠ l) : 0 ≤ o f.1 * v - o f.2 * u ∧ 0 ≤ u * o l.2 - v * o l.1 := h.resolve_left ne
theorem nn_mul {a g : Real} (hg : 0 < g) (h : 0 ≤ a) : 0 ≤ g * a := mul_nn' (by grind) h
/-- the chord's ends seen from the centre are unlike directions -/
theorem bow_ne {c p q : P2} (h : BowOk c p q) : low (dif p c) ≠ low (dif q c) ∧ low (dif q c) ≠ outw q p ∧ outw q p ≠ low (dif p c) := by
  obtain ⟨np, nq⟩ := h.np
  obtain ⟨a, b, d, e, R, r, w⟩ := bw_of h
  have dp : dif p c ≠ (0, 0) := dif_ne np
  have dq : dif q c ≠ (0, 0) := dif_ne nq
  have eq : dot (dif p c) (dif p c) = dot (dif q c) (dif q c) := by
    have := h.eq
    unfold far at this
    unfold dif dot at *
    dsimp only at *
    grind
  have od : ∀ m : P2, (∃ e : Int, e = dot (dif m c) (dif p q)) → True := fun _ _ => trivial
  have h1 : o (dot (dif q c) (dif p q)) = d * (a - d) + e * (b - e) := by
    unfold dot dif
    dsimp only
    rw [o_add, o_mul, o_mul, o_sub, o_sub, o_sub, o_sub, ← w.ea, ← w.eb, ← w.ed, ← w.ee]
    grind
  have h2 : o (dot (dif p c) (dif p q)) = a * (a - d) + b * (b - e) := by
    unfold dot dif
    dsimp only
    rw [o_add, o_mul, o_mul, o_sub, o_sub, o_sub, o_sub, ← w.ea, ← w.eb, ← w.ed, ← w.ee]
    grind
  refine ⟨low_ne dp dq eq (fun z => h.ne ?_), low_outw dq (Ne.symm h.ne) fun z => ?_, fun z => low_outw dp (Ne.symm h.ne) (fun z => ?_) z.symm⟩
  · unfold dif at z
    have z1 := congrArg Prod.fst z
    have z2 := congrArg Prod.snd z
    dsimp only at z1 z2
    exact Prod.ext (by omega) (by omega)
  · rw [z, o_0] at h1
    have := w.ne
    have := w.hq
    grind
  · rw [z, o_0] at h2
    have := w.ne
    have := w.hp
    grind
theorem sup_bow {c p q : P2} {a b d e R r x y u v : Real} (w : Bw c p q a b d e R r) (h1 : x * x + y * y ≤ R) (h2 : (d - a) * (y - b) - (e - b) * (x - a) ≤ 0) :
    (0 ≤ d * v - e * u → 0 ≤ u * (d - a) - v * (b - e) → (x - d) * u + (y - e) * v ≤ 0) ∧ (0 ≤ (b - e) * v - (d - a) * u → 0 ≤ u * b - v * a → (x - a) * u + (y - b) * v ≤ 0) := by
  have hp := w.hp
  have hq := w.hq
  have s1 := Real.sq_nn (x - d)
  have s2 := Real.sq_nn (y - e)
  have s3 := Real.sq_nn (x - a)
  have s4 := Real.sq_nn (y - b)
  have ne := w.ne
  constructor
  · intro c1 c2
    have k1 : 0 ≤ -((x - d) * d + (y - e) * e) := by grind
    have k2 : 0 ≤ -((x - d) * (b - e) + (y - e) * (d - a)) := by grind
    have m1 := mul_nn' c2 k1
    have m2 := mul_nn' c1 k2
    refine le_of_mul ne ?_
    have e1 : ((x - d) * u + (y - e) * v) * (R - (a * d + b * e)) = (u * (d - a) - v * (b - e)) * ((x - d) * d + (y - e) * e) + (d * v - e * u) * ((x - d) * (b - e) + (y - e) * (d - a)) := by
      rw [← hq]; grind
    rw [e1]
    grind
  · intro c1 c2
    have k1 : 0 ≤ -((x - a) * a + (y - b) * b) := by grind
    have k2 : 0 ≤ -((x - a) * (b - e) + (y - b) * (d - a)) := by grind
    have m1 := mul_nn' c1 k1
    have m2 := mul_nn' c2 k2
    refine le_of_mul ne ?_
    have e1 : ((x - a) * u + (y - b) * v) * (R - (a * d + b * e)) = ((b - e) * v - (d - a) * u) * ((x - a) * a + (y - b) * b) + (u * b - v * a) * ((x - a) * (b - e) + (y - b) * (d - a)) := by
      rw [← hp]; grind
    rw [e1]
    grind
theorem bow_in {c p q : P2} {a b d e R r x y : Real} (w : Bw c p q a b d e R r) : InS (.bow c p q) x y ↔ (x - o c.1) * (x - o c.1) + (y - o c.2) * (y - o c.2) ≤ R ∧ (d - a) * ((y - o c.2) - b) - (e - b) * ((x - o c.1) - a) ≤ 0 := by
  show (x - o c.1) * (x - o c.1) + (y - o c.2) * (y - o c.2) ≤ o (far c p) ∧ (o q.1 - o p.1) * (y - o p.2) - (o q.2 - o p.2) * (x - o p.1) ≤ 0 ↔ _
  rw [w.eR, ← w.ea, ← w.eb, ← w.ed, ← w.ee]
  have e1 : (o q.1 - o c.1 - (o p.1 - o c.1)) * (y - o c.2 - (o p.2 - o c.2)) - (o q.2 - o c.2 - (o p.2 - o c.2)) * (x - o c.1 - (o p.1 - o c.1)) = (o q.1 - o p.1) * (y - o p.2) - (o q.2 - o p.2) * (x - o p.1) := by grind
  rw [e1]
theorem sup_round {T : Th} (hT : GoodTh T) {c f l : P2} {r : Int} (hf : Fc.round c r f l ∈ facesL T) {u v n x y : Real} (hn : 0 ≤ n) (h2 : n * n = u * u + v * v) (hc : coneR f l u v) (hx : InS T x y) : (x - o c.1) * u + (y - o c.2) * v ≤ o r * n := by
  cases T with
  | spot p =>
    simp only [facesL, List.mem_cons, List.not_mem_nil, or_false, Fc.round.injEq] at hf
    obtain ⟨rfl, rfl, rfl, rfl⟩ := hf
    obtain ⟨rfl, rfl⟩ := hx
    rw [o_0]
    grind
  | cord p q =>
    have hne := hT.2.2.1
    simp only [facesL, List.mem_cons, List.not_mem_nil, or_false, Fc.round.injEq, reduceCtorEq, false_or] at hf
    obtain ⟨s, s0, s1, rfl, rfl⟩ := hx
    rcases hf with ⟨rfl, rfl, rfl, rfl⟩ | ⟨rfl, rfl, rfl, rfl⟩
    · obtain ⟨G, g0, g1, g2⟩ := out_rel hne
      obtain ⟨c1, _⟩ := coneR_ne hc (outw_ne hne)
      have k := nn_mul g0 c1
      have e1 : G * (o (outw p c).1 * v - o (outw p c).2 * u) = (o c.2 - o p.2) * v + (o c.1 - o p.1) * u := by
        have : G * (o (outw p c).1 * v - o (outw p c).2 * u) = (G * o (outw p c).1) * v - (G * o (outw p c).2) * u := by grind
        rw [this, ← g1, ← g2]; grind
      rw [e1] at k
      have m := mul_nn' (show 0 ≤ 1 - s by grind) k
      rw [o_0]
      grind
    · obtain ⟨G, g0, g1, g2⟩ := out_rel (Ne.symm hne)
      obtain ⟨c1, _⟩ := coneR_ne hc (outw_ne (Ne.symm hne))
      have k := nn_mul g0 c1
      have e1 : G * (o (outw q c).1 * v - o (outw q c).2 * u) = -((o q.2 - o c.2) * v + (o q.1 - o c.1) * u) := by
        have : G * (o (outw q c).1 * v - o (outw q c).2 * u) = (G * o (outw q c).1) * v - (G * o (outw q c).2) * u := by grind
        rw [this, ← g1, ← g2]; grind
      rw [e1] at k
      have m := mul_nn' s0 k
      rw [o_0]
      grind
  | bow k p q =>
    have hb := hT.2.2.2
    obtain ⟨a, b, d, e, R, ρ, w⟩ := bw_of hb
    obtain ⟨n1, n2, n3⟩ := bow_ne hb
    obtain ⟨x1, x2⟩ := (bow_in w).mp hx
    obtain ⟨np, nq⟩ := hb.np
    obtain ⟨g, g0, g1, g2⟩ := low_rel (dif_ne np)
    obtain ⟨g', g0', g1', g2'⟩ := low_rel (dif_ne nq)
    obtain ⟨G, G0, G1, G2⟩ := out_rel (Ne.symm hb.ne)
    have d1 : o (dif p k).1 = a := by unfold dif; rw [o_sub]; exact w.ea
    have d2 : o (dif p k).2 = b := by unfold dif; rw [o_sub]; exact w.eb
    have d3 : o (dif q k).1 = d := by unfold dif; rw [o_sub]; exact w.ed
    have d4 : o (dif q k).2 = e := by unfold dif; rw [o_sub]; exact w.ee
    rw [d1] at g1
    rw [d2] at g2
    rw [d3] at g1'
    rw [d4] at g2'
    have G1' : b - e = G * o (outw q p).1 := by rw [← G1, ← w.eb, ← w.ee]; grind
    have G2' : d - a = G * o (outw q p).2 := by rw [← G2, ← w.ea, ← w.ed]; grind
    simp only [facesL, List.mem_cons, List.not_mem_nil, or_false, Fc.round.injEq, reduceCtorEq, false_or] at hf
    rcases hf with ⟨rfl, rfl, rfl, rfl⟩ | ⟨rfl, rfl, rfl, rfl⟩ | ⟨rfl, rfl, rfl, rfl⟩
    · rw [w.er]
      exact cauchy (by have := w.r0; grind) hn (by rw [w.rr]; exact x1) h2
    · obtain ⟨c1, c2⟩ := coneR_ne hc n2
      have k1 : 0 ≤ d * v - e * u := by
        have := nn_mul g0' c1
        rw [g1', g2']; grind
      have k2 : 0 ≤ u * (d - a) - v * (b - e) := by
        have := nn_mul G0 c2
        rw [G1', G2']; grind
      have z := (sup_bow (u := u) (v := v) w x1 x2).1 k1 k2
      have e1 : x - o c.1 = x - o k.1 - d := by rw [← w.ed]; grind
      have e2 : y - o c.2 = y - o k.2 - e := by rw [← w.ee]; grind
      rw [o_0, e1, e2, show (0 : Real) * n = 0 by grind]
      exact z
    · obtain ⟨c1, c2⟩ := coneR_ne hc n3
      have k1 : 0 ≤ (b - e) * v - (d - a) * u := by
        have := nn_mul G0 c1
        rw [G1', G2']; grind
      have k2 : 0 ≤ u * b - v * a := by
        have := nn_mul g0 c2
        rw [g1, g2]; grind
      have z := (sup_bow (u := u) (v := v) w x1 x2).2 k1 k2
      have e1 : x - o c.1 = x - o k.1 - a := by rw [← w.ea]; grind
      have e2 : y - o c.2 = y - o k.2 - b := by rw [← w.eb]; grind
      rw [o_0, e1, e2, show (0 : Real) * n = 0 by grind]
      exact z
/-- the sides: nothing lies out of them -/
theorem sup_side {T : Th} (hT : GoodTh T) {a b : P2} (hf : Fc.side a b ∈ facesL T) {x y : Real} (hx : InS T x y) : (x - o a.1) * o (outw a b).1 + (y - o a.2) * o (outw a b).2 ≤ 0 := by
  cases T with
  | spot p => simp [facesL] at hf
  | cord p q =>
    have hne := hT.2.2.1
    simp only [facesL, List.mem_cons, List.not_mem_nil, or_false, Fc.side.injEq, reduceCtorEq, false_or] at hf
    obtain ⟨s, s0, s1, rfl, rfl⟩ := hx
    rcases hf with ⟨rfl, rfl⟩ | ⟨rfl, rfl⟩
    · obtain ⟨G, g0, g1, g2⟩ := out_rel hne
      refine le_of_mul g0 ?_
      have e : (s * (o b.1 - o a.1)) * (G * o (outw a b).1) + (s * (o b.2 - o a.2)) * (G * o (outw a b).2) = 0 := by rw [← g1, ← g2]; grind
      grind
    · obtain ⟨G, g0, g1, g2⟩ := out_rel (Ne.symm hne)
      refine le_of_mul g0 ?_
      have e : ((1 - s) * (o b.1 - o a.1)) * (G * o (outw a b).1) + ((1 - s) * (o b.2 - o a.2)) * (G * o (outw a b).2) = 0 := by rw [← g1, ← g2]; grind
      grind
  | bow k p q =>
    have hb := hT.2.2.2
    obtain ⟨a', b', d, e, R, ρ, w⟩ := bw_of hb
    obtain ⟨x1, x2⟩ := (bow_in w).mp hx
    simp only [facesL, List.mem_cons, List.not_mem_nil, or_false, Fc.side.injEq, reduceCtorEq, false_or] at hf
    obtain ⟨rfl, rfl⟩ := hf
    obtain ⟨G, G0, G1, G2⟩ := out_rel (Ne.symm hb.ne)
    refine le_of_mul G0 ?_
    have e1 : x - o a.1 = x - o k.1 - d := by rw [← w.ed]; grind
    have e2 : y - o a.2 = y - o k.2 - e := by rw [← w.ee]; grind
    have e3 : ((x - o k.1 - d) * o (outw a b).1 + (y - o k.2 - e) * o (outw a b).2) * G = (x - o k.1 - d) * (b' - e) + (y - o k.2 - e) * (d - a') := by
      have h1 : b' - e = G * o (outw a b).1 := by rw [← G1, ← w.eb, ← w.ee]; grind
      have h2 : d - a' = G * o (outw a b).2 := by rw [← G2, ← w.ea, ← w.ed]; grind
      rw [h1, h2]; grind
    rw [e1, e2, e3]
    grind
theorem foot_side {T : Th} (hT : GoodTh T) {a b : P2} (hf : Fc.side a b ∈ facesL T) {s : Real} (s0 : 0 ≤ s) (s1 : s ≤ 1) : InS T (o a.1 + s * (o b.1 - o a.1)) (o a.2 + s * (o b.2 - o a.2)) := by
  cases T with
  | spot p => simp [facesL] at hf
  | cord p q =>
    simp only [facesL, List.mem_cons, List.not_mem_nil, or_false, Fc.side.injEq, reduceCtorEq, false_or] at hf
    rcases hf with ⟨rfl, rfl⟩ | ⟨rfl, rfl⟩
    · exact ⟨s, s0, s1, rfl, rfl⟩
    · exact ⟨1 - s, by grind, by grind, by grind, by grind⟩
  | bow k p q =>
    have hb := hT.2.2.2
    obtain ⟨a', b', d, e, R, ρ, w⟩ := bw_of hb
    simp only [facesL, List.mem_cons, List.not_mem_nil, or_false, Fc.side.injEq, reduceCtorEq, false_or] at hf
    obtain ⟨rfl, rfl⟩ := hf
    refine (bow_in w).mpr ?_
    have e1 : o a.1 + s * (o b.1 - o a.1) - o k.1 = d + s * (a' - d) := by rw [← w.ed, ← w.ea]; grind
    have e2 : o a.2 + s * (o b.2 - o a.2) - o k.2 = e + s * (b' - e) := by rw [← w.ee, ← w.eb]; grind
    rw [e1, e2]
    have hp := w.hp
    have hq := w.hq
    have m := mul_nn' (mul_nn' s0 (show 0 ≤ 1 - s by grind)) (show 0 ≤ R - (a' * d + b' * e) by have := w.ne; grind)
    have eN : (d + s * (a' - d)) * (d + s * (a' - d)) + (e + s * (b' - e)) * (e + s * (b' - e)) = (1 - s) * (1 - s) * (d * d + e * e) + s * s * (a' * a' + b' * b') + 2 * (s * (1 - s)) * (a' * d + b' * e) := by grind
    constructor
    · rw [eN, hp, hq]; grind
    · grind
theorem foot_round {T : Th} (hT : GoodTh T) {c f l : P2} {r : Int} (hf : Fc.round c r f l ∈ facesL T) {u v n x y : Real} (hn : 0 < n) (h2 : n * n = u * u + v * v) (hc : coneR f l u v) (hx : (x - o c.1) * n = o r * u) (hy : (y - o c.2) * n = o r * v) : InS T x y := by
  have zero : o r = 0 → x = o c.1 ∧ y = o c.2 := fun z => by
    rw [z] at hx hy
    exact ⟨by have := eq_of_mul hn (show x * n = o c.1 * n by grind); exact this, by have := eq_of_mul hn (show y * n = o c.2 * n by grind); exact this⟩
  cases T with
  | spot p =>
    simp only [facesL, List.mem_cons, List.not_mem_nil, or_false, Fc.round.injEq] at hf
    obtain ⟨rfl, rfl, rfl, rfl⟩ := hf
    exact zero o_0
  | cord p q =>
    simp only [facesL, List.mem_cons, List.not_mem_nil, or_false, Fc.round.injEq, reduceCtorEq, false_or] at hf
    rcases hf with ⟨rfl, rfl, rfl, rfl⟩ | ⟨rfl, rfl, rfl, rfl⟩
    · obtain ⟨rfl, rfl⟩ := zero o_0
      exact ⟨1, by grind, by grind, by grind, by grind⟩
    · obtain ⟨rfl, rfl⟩ := zero o_0
      exact ⟨0, by grind, by grind, by grind, by grind⟩
  | bow k p q =>
    have hb := hT.2.2.2
    obtain ⟨a, b, d, e, R, ρ, w⟩ := bw_of hb
    obtain ⟨n1, n2, n3⟩ := bow_ne hb
    have hp := w.hp
    have hq := w.hq
    have R0 := w.R0
    obtain ⟨np, nq⟩ := hb.np
    obtain ⟨g, g0, g1, g2⟩ := low_rel (dif_ne np)
    obtain ⟨g', g0', g1', g2'⟩ := low_rel (dif_ne nq)
    have d1 : o (dif p k).1 = a := by unfold dif; rw [o_sub]; exact w.ea
    have d2 : o (dif p k).2 = b := by unfold dif; rw [o_sub]; exact w.eb
    have d3 : o (dif q k).1 = d := by unfold dif; rw [o_sub]; exact w.ed
    have d4 : o (dif q k).2 = e := by unfold dif; rw [o_sub]; exact w.ee
    rw [d1] at g1
    rw [d2] at g2
    rw [d3] at g1'
    rw [d4] at g2'
    refine (bow_in w).mpr ?_
    simp only [facesL, List.mem_cons, List.not_mem_nil, or_false, Fc.round.injEq, reduceCtorEq, false_or] at hf
    rcases hf with ⟨rfl, rfl, rfl, rfl⟩ | ⟨rfl, rfl, rfl, rfl⟩ | ⟨rfl, rfl, rfl, rfl⟩
    · rw [w.er] at hx hy
      obtain ⟨c1, c2⟩ := coneR_ne hc n1
      have r0 := w.r0
      have rr := w.rr
      generalize x - o c.1 = X at *
      generalize y - o c.2 = Y at *
      have nn : 0 < n * n := Real.mul_pos hn hn
      have eX : X * X + Y * Y = R := by
        refine eq_of_mul nn ?_
        have : (X * X + Y * Y) * (n * n) = (X * n) * (X * n) + (Y * n) * (Y * n) := by grind
        rw [this, hx, hy, ← rr, h2]
        grind
      have k1 : 0 ≤ a * v - b * u := by
        have := nn_mul g0 c1
        rw [g1, g2]; grind
      have k2 : 0 ≤ u * e - v * d := by
        have := nn_mul g0' c2
        rw [g1', g2']; grind
      have α : 0 ≤ a * Y - b * X := by
        refine le_of_mul hn ?_
        have : (a * Y - b * X) * n = ρ * (a * v - b * u) := by
          have : (a * Y - b * X) * n = a * (Y * n) - b * (X * n) := by grind
          rw [this, hx, hy]; grind
        rw [this]
        have := nn_mul r0 k1
        grind
      have β : 0 ≤ X * e - Y * d := by
        refine le_of_mul hn ?_
        have : (X * e - Y * d) * n = ρ * (u * e - v * d) := by
          have : (X * e - Y * d) * n = (X * n) * e - (Y * n) * d := by grind
          rw [this, hx, hy]; grind
        rw [this]
        have := nn_mul r0 k2
        grind
      have A : a * X + b * Y ≤ R := by
        have := Real.sq_nn (a - X)
        have := Real.sq_nn (b - Y)
        grind
      have B : X * d + Y * e ≤ R := by
        have := Real.sq_nn (X - d)
        have := Real.sq_nn (Y - e)
        grind
      have m1 := mul_nn' α (show 0 ≤ R - (X * d + Y * e) by grind)
      have m2 := mul_nn' β (show 0 ≤ R - (a * X + b * Y) by grind)
      refine ⟨by grind, ?_⟩
      have K : a * e - b * d ≤ (a * Y - b * X) + (X * e - Y * d) := by
        refine le_of_mul R0 ?_
        have : (a * e - b * d) * R = (a * Y - b * X) * (X * d + Y * e) + (X * e - Y * d) * (a * X + b * Y) := by rw [← eX]; grind
        rw [this]
        grind
      grind
    · obtain ⟨rfl, rfl⟩ := zero o_0
      rw [w.ed, w.ee]
      exact ⟨by grind, by grind⟩
    · obtain ⟨rfl, rfl⟩ := zero o_0
      rw [w.ea, w.eb]
      exact ⟨by grind, by grind⟩
end Rs

/-! the distance of a place: no nearer place of the thing, and one that is so near -/
namespace Rs
open Lb Ld Rl
theorem o_cast (i : Int) : o i = Real.of ((i : Int) : Rat) := rfl
theorem of_nrm (P : R2) (c : P2) : Real.of (nrm (difR P c)) = (Real.of P.1 - o c.1) * (Real.of P.1 - o c.1) + (Real.of P.2 - o c.2) * (Real.of P.2 - o c.2) := by
  unfold nrm difR
  dsimp only
  rw [Real.of_add, Real.of_mul, Real.of_mul, Real.of_sub, Real.of_sub]
theorem of_dotR (P : R2) (c n : P2) : Real.of (dotR (difR P c) n) = (Real.of P.1 - o c.1) * o n.1 + (Real.of P.2 - o c.2) * o n.2 := by
  unfold dotR difR
  dsimp only
  rw [Real.of_add, Real.of_mul, Real.of_mul, Real.of_sub, Real.of_sub]
theorem of_crsR (P : R2) (c n : P2) : Real.of (crsR (difR P c) n) = (Real.of P.1 - o c.1) * o n.2 - (Real.of P.2 - o c.2) * o n.1 := by
  unfold crsR difR
  dsimp only
  rw [Real.of_sub, Real.of_mul, Real.of_mul, Real.of_sub, Real.of_sub]
theorem of_le0 {q : Rat} : Real.of q ≤ 0 ↔ q ≤ 0 := by rw [← Real.of_zero, Real.of_le]
theorem of_ge0 {q : Rat} : 0 ≤ Real.of q ↔ 0 ≤ q := by rw [← Real.of_zero, Real.of_le]
theorem outR_cone {P : R2} {c f l : P2} (h : outR (difR P c) f l) : coneR f l (Real.of P.1 - o c.1) (Real.of P.2 - o c.2) := by
  rcases h with h | ⟨h1, h2⟩
  · exact .inl h
  · right
    have e1 := of_crsR P c f
    have e2 := of_crsR P c l
    rw [← of_le0, e1] at h1
    rw [← of_ge0, e2] at h2
    exact ⟨by grind, by grind⟩
/-- the length of an outward direction -/
theorem len_real {n : P2} {k : Nat} (h : DirOk k n) : 0 < o (lenq n : Int) ∧ o (lenq n : Int) * o (lenq n : Int) = o n.1 * o n.1 + o n.2 * o n.2 := by
  have e := lenq_sq h
  refine ⟨?_, ?_⟩
  · refine o_pos ?_
    have nz : lenq n ≠ 0 := fun z => by
      rw [z] at e
      apply h.ne
      unfold dot at e
      have s1 : 0 ≤ n.1 * n.1 := by
        rcases Int.le_total 0 n.1 with w | w
        · exact Int.mul_nonneg w w
        · exact Int.mul_nonneg_of_nonpos_of_nonpos w w
      have s2 : 0 ≤ n.2 * n.2 := by
        rcases Int.le_total 0 n.2 with w | w
        · exact Int.mul_nonneg w w
        · exact Int.mul_nonneg_of_nonpos_of_nonpos w w
      exact Prod.ext (sq0 (by omega)) (sq0 (by omega))
    have n0 : 0 ≤ lenq n := by unfold lenq; omega
    omega
  · rw [← o_mul, e]
    unfold dot
    rw [o_add, o_mul, o_mul]
theorem cauchy_sq {h X Y u v m : Real} (h0 : 0 ≤ h) (hle : h ≤ X * u + Y * v) (hm : 0 < m) (h2 : m * m = u * u + v * v) {d : Real} (hd : d * m = h) (d0 : 0 ≤ d) : d * d ≤ X * X + Y * Y := by
  have mm := Real.mul_pos hm hm
  refine le_of_mul mm ?_
  have e : d * d * (m * m) = h * h := by rw [← hd]; grind
  rw [e]
  have s := Real.sq_nn (X * v - Y * u)
  have e2 : (X * X + Y * Y) * (m * m) = (X * u + Y * v) * (X * u + Y * v) + (X * v - Y * u) * (X * v - Y * u) := by rw [h2]; grind
  have z := mul_nn' (show 0 ≤ X * u + Y * v - h by grind) (show 0 ≤ X * u + Y * v + h by grind)
  rw [e2]
  grind
theorem val_side (P : R2) (a b : P2) (hl : (lenq (outw a b) : Int) ≠ 0) : val (fdR P (.side a b)) * o (lenq (outw a b)) = Real.of (heightR P a b) := by
  show val ⟨heightR P a b / (lenq (outw a b) : Int), 0, 0⟩ * _ = _
  rw [val_fr, o_cast, ← Real.of_mul]
  congr 1
  exact Rat.div_mul_cancel (castne hl)
theorem val_round (P : R2) (c : P2) (r : Int) (f l : P2) : val (fdR P (.round c r f l)) = rtq (nrm (difR P c)) - o r := by
  show val (canon ((0 - r : Int) : Rat) 1 (nrm (difR P c))) = _
  rw [canon_val (nrm_nonneg _), of_int1, o_cast, show ((0 - r : Int) : Rat) = ((-r : Int) : Rat) by rw [Int.zero_sub], ofI_neg]
  grind
structure Nst (T : Th) (P : R2) (d : Real) : Prop where
  nn : 0 ≤ d
  lb : ∀ x y, InS T x y → d * d ≤ (Real.of P.1 - x) * (Real.of P.1 - x) + (Real.of P.2 - y) * (Real.of P.2 - y)
  at_ : ∃ x y, InS T x y ∧ (Real.of P.1 - x) * (Real.of P.1 - x) + (Real.of P.2 - y) * (Real.of P.2 - y) = d * d
theorem face_nst {T : Th} (hT : GoodTh T) {P : R2} {f : Fc} (hf : f ∈ facesL T) (hs : spokedR P f) : Nst T P (val (fdR P f)) ∧ 0 < val (fdR P f) := by
  have fg := faces_good hT f hf
  cases f with
  | side a b =>
    obtain ⟨ne, ba, bb, wh⟩ := fg
    have dk : DirOk 12 (outw a b) := outw_ok ne ba bb wh
    obtain ⟨m0, mm⟩ := len_real dk
    have l0 : (lenq (outw a b) : Int) ≠ 0 := fun z => by
      rw [show o (lenq (outw a b)) = o 0 by rw [z], o_0] at m0
      grind
    have ev1 := val_side P a b l0
    obtain ⟨h0, bs0, bs1⟩ := hs
    have hp := of_pos h0
    have eh := of_dotR P a (outw a b)
    have eh' : Real.of (heightR P a b) = _ := eh
    have vp : 0 < val (fdR P (.side a b)) := by
      rcases Real.tri' (val (fdR P (.side a b))) 0 with z | z | z
      · have := Real.mul_pos (show 0 < - val (fdR P (.side a b)) by grind) m0
        grind
      · rw [z] at ev1; grind
      · exact z
    refine ⟨⟨by grind, fun x y hx => ?_, ?_⟩, vp⟩
    · have su := sup_side hT hf hx
      refine cauchy_sq (h := Real.of (heightR P a b)) (by grind) ?_ m0 mm ev1 (by grind)
      rw [eh']
      grind
    · obtain ⟨G, g0, g1, g2⟩ := out_rel ne
      obtain ⟨G', L, C, t, lay⟩ := lay_of ne P
      have t0 : 0 ≤ t := by rw [lay.et]; exact bs0
      have t1 : t ≤ (L : Rat) := by rw [lay.et, lay.eL]; exact bs1
      have lr := lay.lr
      have es : t / (L : Rat) * (L : Rat) = t := Rat.div_mul_cancel (by grind)
      have s0 : 0 ≤ t / (L : Rat) := by
        rw [Rat.div_def]
        exact Rat.mul_nonneg t0 (Rat.le_of_lt (Rat.inv_pos.mpr lr))
      have s1 : t / (L : Rat) ≤ 1 := by
        rcases rat_lt_or_le 1 (t / (L : Rat)) with z | z
        · have := Rat.mul_pos (show 0 < t / (L : Rat) - 1 by grind) lr
          grind
        · exact z
      generalize t / (L : Rat) = s at *
      have S0 : 0 ≤ Real.of s := of_nn s0
      have S1 : Real.of s ≤ 1 := by rw [← Real.of_one, Real.of_le]; exact s1
      refine ⟨_, _, foot_side hT hf S0 S1, ?_⟩
      have et : Real.of s * o L = (Real.of P.1 - o a.1) * (o b.1 - o a.1) + (Real.of P.2 - o a.2) * (o b.2 - o a.2) := by
        rw [o_cast, ← Real.of_mul, es, lay.et, of_dotR]
        unfold dif
        dsimp only
        rw [o_sub, o_sub]
      have eL : o L = (o b.1 - o a.1) * (o b.1 - o a.1) + (o b.2 - o a.2) * (o b.2 - o a.2) := by
        rw [lay.eL]
        unfold dot dif
        dsimp only
        rw [o_add, o_mul, o_mul, o_sub, o_sub]
      refine eq_of_mul (Real.mul_pos m0 m0) ?_
      have ev2 : val (fdR P (.side a b)) * val (fdR P (.side a b)) * (o (lenq (outw a b)) * o (lenq (outw a b))) = Real.of (heightR P a b) * Real.of (heightR P a b) := by rw [← ev1]; grind
      rw [ev2, mm, eh']
      rw [eL] at et
      generalize Real.of s = σ at *
      generalize Real.of P.1 = X at *
      generalize Real.of P.2 = Y at *
      have d2 : o b.2 = o a.2 + G * o (outw a b).1 := by grind
      have d1 : o b.1 = o a.1 - G * o (outw a b).2 := by grind
      rw [d1, d2] at et ⊢
      generalize o (outw a b).1 = n1 at *
      generalize o (outw a b).2 = n2 at *
      generalize o (lenq (outw a b)) = m at *
      have z : (X - o a.1 + σ * G * n2) * n2 - (Y - o a.2 - σ * G * n1) * n1 = 0 := by
        refine eq_of_mul g0 ?_
        grind
      have e1 : X - (o a.1 + σ * (o a.1 - G * n2 - o a.1)) = X - o a.1 + σ * G * n2 := by grind
      have e2 : Y - (o a.2 + σ * (o a.2 + G * n1 - o a.2)) = Y - o a.2 - σ * G * n1 := by grind
      rw [e1, e2]
      have e3 : (X - o a.1) * n1 + (Y - o a.2) * n2 = (X - o a.1 + σ * G * n2) * n1 + (Y - o a.2 - σ * G * n1) * n2 := by grind
      rw [e3]
      generalize X - o a.1 + σ * G * n2 = U at *
      generalize Y - o a.2 - σ * G * n1 = V at *
      have e4 : (U * U + V * V) * (n1 * n1 + n2 * n2) = (U * n1 + V * n2) * (U * n1 + V * n2) + (U * n2 - V * n1) * (U * n2 - V * n1) := by grind
      rw [e4, z]
      grind
  | round c r f l =>
    obtain ⟨_, _, bc, r0, rs⟩ := fg
    obtain ⟨h1, h2⟩ := hs
    have hc := outR_cone h2
    have N0 := nrm_nonneg (difR P c)
    have n0 := rtq_nn (nrm (difR P c))
    have nn := rtq_sq N0
    have r0' := o_nn r0
    have lt : o r < rtq (nrm (difR P c)) := by
      rcases Real.tri' (o r) (rtq (nrm (difR P c))) with z | z | z
      · exact z
      · exfalso
        apply h1
        rw [← Real.of_le, ← nn, ← z, ← o_cast, o_mul]
        grind
      · exfalso
        apply h1
        rw [← Real.of_le, ← nn, ← o_cast, o_mul]
        have := mul_nn' n0 (show 0 ≤ o r - rtq (nrm (difR P c)) by grind)
        have := mul_nn' r0' (show 0 ≤ o r - rtq (nrm (difR P c)) by grind)
        grind
    rw [val_round]
    have en := of_nrm P c
    rw [← nn] at en
    have np : 0 < rtq (nrm (difR P c)) := by grind
    refine ⟨⟨by grind, fun x y hx => ?_, ?_⟩, by grind⟩
    · have su := sup_round hT hf (by grind) en hc hx
      refine cauchy_sq (u := Real.of P.1 - o c.1) (v := Real.of P.2 - o c.2) (h := (rtq (nrm (difR P c)) - o r) * rtq (nrm (difR P c))) (mul_nn' (by grind) n0) ?_ np en rfl (by grind)
      grind
    · have Np : 0 < nrm (difR P c) := by
        rcases rat_lt_or_le 0 (nrm (difR P c)) with z | z
        · exact z
        · have e := Rat.le_antisymm z N0
          rw [e, rtq_zero] at np
          grind
      obtain ⟨iv, hiv⟩ : ∃ iv : Real, rtq (nrm (difR P c)) * iv = 1 := by
        refine ⟨rtq (nrm (difR P c)) * Real.of (nrm (difR P c))⁻¹, ?_⟩
        have : rtq (nrm (difR P c)) * (rtq (nrm (difR P c)) * Real.of (nrm (difR P c))⁻¹) = (rtq (nrm (difR P c)) * rtq (nrm (difR P c))) * Real.of (nrm (difR P c))⁻¹ := by grind
        rw [this, nn, ← Real.of_mul, Rat.mul_inv_cancel _ (by grind), Real.of_one]
      generalize rtq (nrm (difR P c)) = n at *
      refine ⟨o c.1 + o r * (Real.of P.1 - o c.1) * iv, o c.2 + o r * (Real.of P.2 - o c.2) * iv, foot_round hT hf np en hc (by grind) (by grind), ?_⟩
      generalize Real.of P.1 = X at *
      generalize Real.of P.2 = Y at *
      have e1 : X - (o c.1 + o r * (X - o c.1) * iv) = (X - o c.1) * (1 - o r * iv) := by grind
      have e2 : Y - (o c.2 + o r * (Y - o c.2) * iv) = (Y - o c.2) * (1 - o r * iv) := by grind
      rw [e1, e2]
      have e3 : (X - o c.1) * (1 - o r * iv) * ((X - o c.1) * (1 - o r * iv)) + (Y - o c.2) * (1 - o r * iv) * ((Y - o c.2) * (1 - o r * iv)) = (n * n) * ((1 - o r * iv) * (1 - o r * iv)) := by rw [en]; grind
      rw [e3]
      have e4 : n * (1 - o r * iv) = n - o r := by grind
      rw [← e4]
      grind
end Rs

namespace Rs
open Lb Ld Rl
theorem real_nrm0 {P : R2} {c : P2} (h : nrm (difR P c) = 0) : Real.of P.1 = o c.1 ∧ Real.of P.2 = o c.2 := by
  have e := of_nrm P c
  rw [h, Real.of_zero] at e
  have s1 := Real.sq_nn (Real.of P.1 - o c.1)
  have s2 := Real.sq_nn (Real.of P.2 - o c.2)
  have z1 : (Real.of P.1 - o c.1) * (Real.of P.1 - o c.1) = 0 := by grind
  have z2 : (Real.of P.2 - o c.2) * (Real.of P.2 - o c.2) = 0 := by grind
  exact ⟨by rcases Real.mul_zero' z1 with z | z <;> grind, by rcases Real.mul_zero' z2 with z | z <;> grind⟩
theorem none_on {T : Th} (hT : GoodTh T) {P : R2} (hn : ∀ f ∈ facesL T, ¬ spokedR P f) : InS T (Real.of P.1) (Real.of P.2) := by
  cases T with
  | spot p =>
    have h := hn (.round p 0 (1, 0) (1, 0)) (by simp [facesL])
    have z : nrm (difR P p) = 0 := by
      rcases rat_lt_or_le 0 (nrm (difR P p)) with w | w
      · exfalso
        apply h
        exact ⟨by rw [show ((0 * 0 : Int) : Rat) = 0 from rfl]; grind, .inl rfl⟩
      · exact Rat.le_antisymm w (nrm_nonneg _)
    exact real_nrm0 z
  | cord p q =>
    have hne := hT.2.2.1
    obtain ⟨G, L, C, t, lay⟩ := lay_of hne P
    obtain ⟨s0, s1, s2, s3⟩ := cord_spokes hne lay
    have n0 := mt s0.mpr (hn _ (by simp [facesL]))
    have n1 := mt s1.mpr (hn _ (by simp [facesL]))
    have n2 := mt s2.mpr (hn _ (by simp [facesL]))
    have n3 := mt s3.mpr (hn _ (by simp [facesL]))
    have lr := lay.lr
    have hC : C = 0 := by
      rcases rat_lt_or_le 0 t with a | a
      · rcases rat_lt_or_le t L with b | b
        · rcases rat_lt_or_le 0 C with d | d
          · exact absurd ⟨d, by grind, by grind⟩ n0
          · rcases rat_lt_or_le C 0 with e | e
            · exact absurd ⟨e, by grind, by grind⟩ n2
            · grind
        · have : C = 0 ∧ t = L := by
            false_or_by_contra
            rename_i w
            exact n1 ⟨w, b⟩
          exact this.1
      · have : C = 0 ∧ t = 0 := by
          false_or_by_contra
          rename_i w
          exact n3 ⟨w, a⟩
        exact this.1
    have t0 : 0 ≤ t := by
      rcases rat_lt_or_le t 0 with a | a
      · have : C = 0 ∧ t = 0 := by
          false_or_by_contra
          rename_i w
          exact n3 ⟨w, by grind⟩
        grind
      · exact a
    have t1 : t ≤ (L : Rat) := by
      rcases rat_lt_or_le (L : Rat) t with a | a
      · have : C = 0 ∧ t = L := by
          false_or_by_contra
          rename_i w
          exact n1 ⟨w, by grind⟩
        grind
      · exact a
    have es : t / (L : Rat) * (L : Rat) = t := Rat.div_mul_cancel (by grind)
    have s0 : 0 ≤ t / (L : Rat) := by
      rw [Rat.div_def]
      exact Rat.mul_nonneg t0 (Rat.le_of_lt (Rat.inv_pos.mpr lr))
    have s1 : t / (L : Rat) ≤ 1 := by
      rcases rat_lt_or_le 1 (t / (L : Rat)) with z | z
      · have := Rat.mul_pos (show 0 < t / (L : Rat) - 1 by grind) lr
        grind
      · exact z
    generalize t / (L : Rat) = s at *
    have et : Real.of s * o L = (Real.of P.1 - o p.1) * (o q.1 - o p.1) + (Real.of P.2 - o p.2) * (o q.2 - o p.2) := by
      rw [o_cast, ← Real.of_mul, es, lay.et, of_dotR]
      unfold dif
      dsimp only
      rw [o_sub, o_sub]
    have eC : (Real.of P.1 - o p.1) * (o q.2 - o p.2) - (Real.of P.2 - o p.2) * (o q.1 - o p.1) = 0 := by
      have := of_crsR P p (dif q p)
      rw [← lay.eC, hC, Real.of_zero] at this
      unfold dif at this
      dsimp only at this
      rw [o_sub, o_sub] at this
      exact this.symm
    have eL : o L = (o q.1 - o p.1) * (o q.1 - o p.1) + (o q.2 - o p.2) * (o q.2 - o p.2) := by
      rw [lay.eL]
      unfold dot dif
      dsimp only
      rw [o_add, o_mul, o_mul, o_sub, o_sub]
    have L0 : 0 < o L := o_pos lay.l0
    refine ⟨Real.of s, of_nn s0, by rw [← Real.of_one, Real.of_le]; exact s1, ?_, ?_⟩
    · refine eq_of_mul L0 ?_
      have : (o p.1 + Real.of s * (o q.1 - o p.1)) * o L = o p.1 * o L + (Real.of s * o L) * (o q.1 - o p.1) := by grind
      rw [this, et, eL]
      grind
    · refine eq_of_mul L0 ?_
      have : (o p.2 + Real.of s * (o q.2 - o p.2)) * o L = o p.2 * o L + (Real.of s * o L) * (o q.2 - o p.2) := by grind
      rw [this, et, eL]
      grind
  | bow c p q =>
    have hb := hT.2.2.2
    obtain ⟨R, E1, E2, x, y, X, Y, G, L, C, t, b⟩ := bl_of hb P
    obtain ⟨s0, s1, s2, s3⟩ := bow_spokes hb b
    have n0 := mt s0.mpr (hn _ (by simp [facesL]))
    have n1 := mt s1.mpr (hn _ (by simp [facesL]))
    have n2 := mt s2.mpr (hn _ (by simp [facesL]))
    have n3 := mt s3.mpr (hn _ (by simp [facesL]))
    have l0 := b.lay.lr
    have idx : idxF P 0 (facesL (.bow c p q)) = [] := by
      unfold facesL
      rw [idx4_of false false false false (no s0 n0) (no s1 n1) (no s2 n2) (no s3 n3)]
      rfl
    have on : nrm (difR P c) ≤ R ∧ C ≤ 0 := by
      false_or_by_contra
      rename_i off
      have hs : ¬ (Y ≤ 0 ∧ y ≤ 0 ∧ R < nrm (difR P c)) := fun z => n0 ⟨z.2.2, z.1, z.2.1⟩
      have key : ∀ ns : List Int, OfC 1 2 3 9 C t L ns → ns = [] := fun ns h => by rw [← faces_bow_off hb b off hs h, idx]
      by_cases h1 : t < 0 ∨ (t = 0 ∧ C = 0)
      · have := key [1] (.inl ⟨h1, rfl⟩)
        cases this
      by_cases h2 : (L : Rat) < t ∨ (t = L ∧ C = 0)
      · have := key [3] (.inr (.inl ⟨h1, h2, rfl⟩))
        cases this
      have third : ∀ ns : List Int, ns.Perm ((if 0 < C then (2 : Int) else 9) :: ((if t = 0 then [1] else []) ++ (if t = L then [3] else []))) → ns.Pairwise (· ≤ ·) → False := fun ns a b2 => by
        have e := key ns (.inr (.inr ⟨h1, h2, a, b2⟩))
        rw [e] at a
        exact absurd a.length_eq (by simp)
      by_cases ht : t = 0
      · have hL : ¬ t = L := by grind
        by_cases hc : 0 < C
        · refine third [1, 2] ?_ (by decide)
          rw [if_pos hc, if_pos ht, if_neg hL]
          decide
        · refine third [1, 9] ?_ (by decide)
          rw [if_neg hc, if_pos ht, if_neg hL]
          decide
      · by_cases hL : t = L
        · by_cases hc : 0 < C
          · refine third [2, 3] ?_ (by decide)
            rw [if_pos hc, if_neg ht, if_pos hL]
            decide
          · refine third [3, 9] ?_ (by decide)
            rw [if_neg hc, if_neg ht, if_pos hL]
            decide
        · by_cases hc : 0 < C
          · refine third [2] ?_ (by decide)
            rw [if_pos hc, if_neg ht, if_neg hL]
            decide
          · refine third [9] ?_ (by decide)
            rw [if_neg hc, if_neg ht, if_neg hL]
            decide
    obtain ⟨on1, on2⟩ := on
    constructor
    · rw [← of_nrm P c]
      have eR := b.eR
      have : ((far c p : Int) : Rat) = R := by
        rw [eR]
        congr 1
        unfold far dot dif
        dsimp only
        grind
      rw [o_cast, this, Real.of_le]
      exact on1
    · have e := of_crsR P q (dif p q)
      rw [← b.lay.eC] at e
      have c0 := of_le0.mpr on2
      rw [e] at c0
      unfold dif at c0
      dsimp only at c0
      rw [o_sub, o_sub] at c0
      grind
theorem dist_nst {T : Th} (hT : GoodTh T) (P : R2) : Nst T P (val (distR T P)) ∧ (val (distR T P) = 0 ↔ firstR T P = none) := by
  unfold distR
  cases h : firstR T P with
  | none =>
    have hn : ∀ f ∈ facesL T, ¬ spokedR P f := fun f hf => by
      have := List.find?_eq_none.mp h f hf
      simpa using this
    have hv : val (⟨0, 0, 0⟩ : Rt) = 0 := by rw [val_fr, Real.of_zero]
    dsimp only
    rw [hv]
    refine ⟨⟨by grind, fun x y _ => ?_, _, _, none_on hT hn, by grind⟩, by simp⟩
    have := Real.sq_nn (Real.of P.1 - x)
    have := Real.sq_nn (Real.of P.2 - y)
    grind
  | some f =>
    have hf : f ∈ facesL T := List.mem_of_find?_eq_some h
    have hs : spokedR P f := by
      have := List.find?_some h
      simpa using this
    obtain ⟨a, b⟩ := face_nst hT hf hs
    exact ⟨a, ⟨fun z => by dsimp only at z; grind, fun z => by cases z⟩⟩
/-- the told distance is a root in its form -/
theorem canon_ok {b q : Rat} {s : Int} (h0 : 0 ≤ q) (hs : s = -1 ∨ s = 0 ∨ s = 1) : Ok (canon b s q) := by
  unfold canon
  split
  · exact ok_fr0 b
  · rename_i h
    split
    · exact ok_fr0 _
    · refine ⟨h0, hs, fun z => absurd (.inl z) h, fun _ => ?_⟩
      rcases rat_lt_or_le 0 q with z | z
      · exact z
      · exact absurd (.inr (Rat.le_antisymm z h0)) h
theorem fd_ok (P : R2) (f : Fc) : Ok (fdR P f) ∧ Cn (fdR P f) := by
  cases f with
  | side a b => exact ⟨ok_fr0 _, cn_fr0 _⟩
  | round c r f l => exact ⟨canon_ok (nrm_nonneg _) (by decide), canon_cn ..⟩
theorem dist_ok (T : Th) (P : R2) : Ok (distR T P) ∧ Cn (distR T P) := by
  unfold distR
  split
  · exact ⟨ok_fr0 0, cn_fr0 0⟩
  · exact fd_ok P _
theorem nst_uniq {T : Th} {P : R2} {d e : Real} (h : Nst T P d) (k : Nst T P e) : d = e := by
  obtain ⟨x, y, hx, ex⟩ := h.at_
  obtain ⟨x', y', hx', ex'⟩ := k.at_
  have l1 := h.lb _ _ hx'
  have l2 := k.lb _ _ hx
  refine Real.sq_inj h.nn k.nn ?_
  rw [ex'] at l1
  rw [ex] at l2
  grind
end Rs

/-! two things: the distance that faces tell is the least -/
namespace Rs
open Lb Ld Rl
def outI (f l u : P2) : Prop := f = l ∨ (0 ≤ crs f u ∧ 0 ≤ crs u l)
instance (f l u : P2) : Decidable (outI f l u) := by unfold outI; infer_instance
def neg2 (u : P2) : P2 := (0 - u.1, 0 - u.2)
def roundP (c1 : P2) (r1 : Int) (f1 l1 c2 : P2) (r2 : Int) (f2 l2 : P2) : Option Rt :=
  if dif c2 c1 = (0, 0) ∨ ¬ outI f1 l1 (dif c2 c1) ∨ ¬ outI f2 l2 (neg2 (dif c2 c1)) then none else some (canon ((0 - r1 - r2 : Int) : Rat) 1 ((dot (dif c2 c1) (dif c2 c1) : Int) : Rat))
def sideP (a b c : P2) (r : Int) (f l : P2) : Option Rt :=
  if ¬ besideR (toR c) a b ∨ ¬ outI f l (neg2 (outw a b)) then none else some ⟨((dot (dif c a) (outw a b) - r * lenq (outw a b) : Int) : Rat) / ((lenq (outw a b) : Int) : Rat), 0, 0⟩
def farP : Fc → Fc → Option Rt
  | .side _ _, .side _ _ => none
  | .side a b, .round c r f l => sideP a b c r f l
  | .round c r f l, .side a b => sideP a b c r f l
  | .round c1 r1 f1 l1, .round c2 r2 f2 l2 => roundP c1 r1 f1 l1 c2 r2 f2 l2
structure Apt (A B : Th) (d : Real) : Prop where
  nn : 0 ≤ d
  lb : ∀ x y z w, InS A x y → InS B z w → d * d ≤ (z - x) * (z - x) + (w - y) * (w - y)
  at_ : ∃ x y z w, InS A x y ∧ InS B z w ∧ (z - x) * (z - x) + (w - y) * (w - y) = d * d
theorem Apt.symm {A B : Th} {d : Real} (h : Apt A B d) : Apt B A d := by
  obtain ⟨x, y, z, w, a, b, e⟩ := h.at_
  exact ⟨h.nn, fun x y z w a b => by have := h.lb _ _ _ _ b a; grind, z, w, x, y, b, a, by rw [← e]; grind⟩
theorem apt_uniq {A B : Th} {d e : Real} (h : Apt A B d) (k : Apt A B e) : d = e := by
  obtain ⟨x, y, z, w, a, b, e1⟩ := h.at_
  obtain ⟨x', y', z', w', a', b', e2⟩ := k.at_
  have l1 := h.lb _ _ _ _ a' b'
  have l2 := k.lb _ _ _ _ a b
  refine Real.sq_inj h.nn k.nn ?_
  rw [e2] at l1
  rw [e1] at l2
  grind
theorem outI_cone {f l u : P2} (h : outI f l u) : coneR f l (o u.1) (o u.2) := by
  rcases h with h | ⟨h1, h2⟩
  · exact .inl h
  · right
    unfold crs at h1 h2
    have a := o_nn h1
    have b := o_nn h2
    rw [o_sub, o_mul, o_mul] at a b
    exact ⟨a, b⟩
theorem o_neg2 (u : P2) : o (neg2 u).1 = - o u.1 ∧ o (neg2 u).2 = - o u.2 := by
  unfold neg2
  dsimp only
  rw [o_sub, o_sub, o_0]
  exact ⟨by grind, by grind⟩
theorem rounds_apt {A B : Th} (hA : GoodTh A) (hB : GoodTh B) {c1 f1 l1 c2 f2 l2 : P2} {r1 r2 : Int} (h1 : Fc.round c1 r1 f1 l1 ∈ facesL A) (h2 : Fc.round c2 r2 f2 l2 ∈ facesL B) {ρ : Rt} (h : roundP c1 r1 f1 l1 c2 r2 f2 l2 = some ρ) (hp : 0 < val ρ) : Apt A B (val ρ) := by
  unfold roundP at h
  split at h
  · cases h
  rename_i hc
  have hu : dif c2 c1 ≠ (0, 0) := fun z => hc (.inl z)
  have k1 : outI f1 l1 (dif c2 c1) := by
    false_or_by_contra
    rename_i z
    exact hc (.inr (.inl z))
  have k2 : outI f2 l2 (neg2 (dif c2 c1)) := by
    false_or_by_contra
    rename_i z
    exact hc (.inr (.inr z))
  have q1 := outI_cone k1
  have q2 := outI_cone k2
  obtain ⟨m1, m2⟩ := o_neg2 (dif c2 c1)
  rw [m1, m2] at q2
  have eu : o (dif c2 c1).1 = o c2.1 - o c1.1 := by unfold dif; exact o_sub ..
  have ev1 : o (dif c2 c1).2 = o c2.2 - o c1.2 := by unfold dif; exact o_sub ..
  have eN : o (dot (dif c2 c1) (dif c2 c1)) = o (dif c2 c1).1 * o (dif c2 c1).1 + o (dif c2 c1).2 * o (dif c2 c1).2 := by unfold dot; rw [o_add, o_mul, o_mul]
  have N0 : (0 : Rat) ≤ ((dot (dif c2 c1) (dif c2 c1) : Int) : Rat) := by
    rw [← of_ge0, ← o_cast, eN]
    have := Real.sq_nn (o (dif c2 c1).1)
    have := Real.sq_nn (o (dif c2 c1).2)
    grind
  have hv : val ρ = rtq ((dot (dif c2 c1) (dif c2 c1) : Int) : Rat) - o r1 - o r2 := by
    rw [← Option.some.inj h, canon_val N0, of_int1, o_cast, of_int_sub, of_int_sub, of_int0]
    grind
  have n0 := rtq_nn ((dot (dif c2 c1) (dif c2 c1) : Int) : Rat)
  have nn := rtq_sq N0
  rw [← o_cast, eN] at nn
  obtain ⟨_, _, _, r10, _⟩ := faces_good hA _ h1
  obtain ⟨_, _, _, r20, _⟩ := faces_good hB _ h2
  have R1 := o_nn r10
  have R2 := o_nn r20
  rw [hv] at hp ⊢
  have np : 0 < rtq ((dot (dif c2 c1) (dif c2 c1) : Int) : Rat) := by grind
  have Np : (0 : Rat) < ((dot (dif c2 c1) (dif c2 c1) : Int) : Rat) := by
    rcases rat_lt_or_le 0 ((dot (dif c2 c1) (dif c2 c1) : Int) : Rat) with z | z
    · exact z
    · have e := Rat.le_antisymm z N0
      rw [e, rtq_zero] at np
      grind
  have nn' := rtq_sq N0
  generalize ((dot (dif c2 c1) (dif c2 c1) : Int) : Rat) = N at *
  obtain ⟨iv, hiv⟩ : ∃ iv : Real, rtq N * iv = 1 := by
    refine ⟨rtq N * Real.of N⁻¹, ?_⟩
    have : rtq N * (rtq N * Real.of N⁻¹) = (rtq N * rtq N) * Real.of N⁻¹ := by grind
    rw [this, nn', ← Real.of_mul, Rat.mul_inv_cancel _ (by grind), Real.of_one]
  clear nn' eN
  generalize rtq N = n at *
  generalize o (dif c2 c1).1 = u at *
  generalize o (dif c2 c1).2 = v at *
  have nn2 : n * n = -u * -u + -v * -v := by grind
  refine ⟨by grind, fun x y z w ha hb => ?_, ?_⟩
  · have s1 := sup_round hA h1 n0 nn q1 ha
    have s2 := sup_round hB h2 n0 nn2 q2 hb
    refine cauchy_sq (u := u) (v := v) (h := (n - o r1 - o r2) * n) (mul_nn' (by grind) n0) ?_ np nn rfl (by grind)
    have e : (n - o r1 - o r2) * n = u * u + v * v - o r1 * n - o r2 * n := by rw [← nn]; grind
    rw [e]
    have e2 : (z - x) * u + (w - y) * v = u * u + v * v + ((z - o c2.1) * u + (w - o c2.2) * v) - ((x - o c1.1) * u + (y - o c1.2) * v) := by rw [eu, ev1]; grind
    rw [e2]
    grind
  · refine ⟨o c1.1 + o r1 * u * iv, o c1.2 + o r1 * v * iv, o c2.1 - o r2 * u * iv, o c2.2 - o r2 * v * iv, foot_round hA h1 np nn q1 (by grind) (by grind), foot_round hB h2 np nn2 q2 (by grind) (by grind), ?_⟩
    have e1 : o c2.1 - o r2 * u * iv - (o c1.1 + o r1 * u * iv) = u * (1 - (o r1 + o r2) * iv) := by rw [eu]; grind
    have e2 : o c2.2 - o r2 * v * iv - (o c1.2 + o r1 * v * iv) = v * (1 - (o r1 + o r2) * iv) := by rw [ev1]; grind
    rw [e1, e2]
    have e3 : u * (1 - (o r1 + o r2) * iv) * (u * (1 - (o r1 + o r2) * iv)) + v * (1 - (o r1 + o r2) * iv) * (v * (1 - (o r1 + o r2) * iv)) = (n * n) * ((1 - (o r1 + o r2) * iv) * (1 - (o r1 + o r2) * iv)) := by rw [nn]; grind
    rw [e3]
    have e4 : n * (1 - (o r1 + o r2) * iv) = n - o r1 - o r2 := by grind
    rw [← e4]
    grind
theorem side_apt {A B : Th} (hA : GoodTh A) (hB : GoodTh B) {a b c f l : P2} {r : Int} (h1 : Fc.side a b ∈ facesL A) (h2 : Fc.round c r f l ∈ facesL B) {ρ : Rt} (h : sideP a b c r f l = some ρ) (hp : 0 < val ρ) : Apt A B (val ρ) := by
  unfold sideP at h
  split at h
  · cases h
  rename_i hc
  have bs : besideR (toR c) a b := by
    false_or_by_contra
    rename_i z
    exact hc (.inl z)
  have k2 : outI f l (neg2 (outw a b)) := by
    false_or_by_contra
    rename_i z
    exact hc (.inr z)
  have q2 := outI_cone k2
  obtain ⟨m1, m2⟩ := o_neg2 (outw a b)
  rw [m1, m2] at q2
  obtain ⟨ne, ba, bb, wh⟩ := faces_good hA _ h1
  have dk : DirOk 12 (outw a b) := outw_ok ne ba bb wh
  obtain ⟨m0, mm⟩ := len_real dk
  have l0 : (lenq (outw a b) : Int) ≠ 0 := fun z => by
    rw [show o (lenq (outw a b)) = o 0 by rw [z], o_0] at m0
    grind
  obtain ⟨_, _, _, r0, _⟩ := faces_good hB _ h2
  have R0 := o_nn r0
  have hv : val ρ * o (lenq (outw a b)) = (o c.1 - o a.1) * o (outw a b).1 + (o c.2 - o a.2) * o (outw a b).2 - o r * o (lenq (outw a b)) := by
    rw [← Option.some.inj h, val_fr, o_cast (lenq (outw a b)), ← Real.of_mul, Rat.div_mul_cancel (castne l0), ← o_cast, o_sub, o_mul]
    unfold dot dif
    dsimp only
    rw [o_add, o_mul, o_mul, o_sub, o_sub]
  obtain ⟨bs0, bs1⟩ := bs
  obtain ⟨G, g0, g1, g2⟩ := out_rel ne
  obtain ⟨G', L, C, t, lay⟩ := lay_of ne (toR c)
  have t0 : 0 ≤ t := by rw [lay.et]; exact bs0
  have t1 : t ≤ (L : Rat) := by rw [lay.et, lay.eL]; exact bs1
  have lr := lay.lr
  have es : t / (L : Rat) * (L : Rat) = t := Rat.div_mul_cancel (by grind)
  have s0 : 0 ≤ t / (L : Rat) := by
    rw [Rat.div_def]
    exact Rat.mul_nonneg t0 (Rat.le_of_lt (Rat.inv_pos.mpr lr))
  have s1 : t / (L : Rat) ≤ 1 := by
    rcases rat_lt_or_le 1 (t / (L : Rat)) with z | z
    · have := Rat.mul_pos (show 0 < t / (L : Rat) - 1 by grind) lr
      grind
    · exact z
  generalize t / (L : Rat) = s at *
  have S0 : 0 ≤ Real.of s := of_nn s0
  have S1 : Real.of s ≤ 1 := by rw [← Real.of_one, Real.of_le]; exact s1
  have ex : Real.of (toR c).1 = o c.1 := rfl
  have ey : Real.of (toR c).2 = o c.2 := rfl
  have et : Real.of s * o L = (o c.1 - o a.1) * (o b.1 - o a.1) + (o c.2 - o a.2) * (o b.2 - o a.2) := by
    rw [o_cast, ← Real.of_mul, es, lay.et, of_dotR, ex, ey]
    unfold dif
    dsimp only
    rw [o_sub, o_sub]
  have eL : o L = (o b.1 - o a.1) * (o b.1 - o a.1) + (o b.2 - o a.2) * (o b.2 - o a.2) := by
    rw [lay.eL]
    unfold dot dif
    dsimp only
    rw [o_add, o_mul, o_mul, o_sub, o_sub]
  obtain ⟨iv, hiv⟩ : ∃ iv : Real, o (lenq (outw a b)) * iv = 1 := by
    refine ⟨Real.of ((lenq (outw a b) : Int) : Rat)⁻¹, ?_⟩
    rw [o_cast, ← Real.of_mul, Rat.mul_inv_cancel _ (castne l0), Real.of_one]
  have mm2 : o (lenq (outw a b)) * o (lenq (outw a b)) = -o (outw a b).1 * -o (outw a b).1 + -o (outw a b).2 * -o (outw a b).2 := by grind
  have supA : ∀ x y, InS A x y → (x - o a.1) * o (outw a b).1 + (y - o a.2) * o (outw a b).2 ≤ 0 := fun x y hx => sup_side hA h1 hx
  have footA := foot_side hA h1 S0 S1
  have supB : ∀ z w, InS B z w → (z - o c.1) * -o (outw a b).1 + (w - o c.2) * -o (outw a b).2 ≤ o r * o (lenq (outw a b)) := fun z w hz => sup_round hB h2 (by grind) mm2 q2 hz
  have footB : ∀ x y, (x - o c.1) * o (lenq (outw a b)) = o r * -o (outw a b).1 → (y - o c.2) * o (lenq (outw a b)) = o r * -o (outw a b).2 → InS B x y := fun x y ex ey => foot_round hB h2 m0 mm2 q2 ex ey
  rw [eL] at et
  have d2 : o b.2 = o a.2 + G * o (outw a b).1 := by grind
  have d1 : o b.1 = o a.1 - G * o (outw a b).2 := by grind
  rw [d1, d2] at et footA
  clear q2 m1 m2 mm2 dk l0 h hc lay t0 t1 lr es s0 s1 bs0 bs1 eL ex ey g1 g2 d1 d2
  generalize Real.of s = σ at *
  generalize o (outw a b).1 = n1 at *
  generalize o (outw a b).2 = n2 at *
  generalize o (lenq (outw a b)) = m at *
  generalize val ρ = d at *
  refine ⟨by grind, fun x y z w ha hb => ?_, ?_⟩
  · have s1 := supA _ _ ha
    have s2 := supB _ _ hb
    refine cauchy_sq (u := n1) (v := n2) (h := d * m) (mul_nn' (by grind) (by grind)) ?_ m0 mm rfl (by grind)
    grind
  · refine ⟨_, _, _, _, footA, footB (o c.1 - o r * n1 * iv) (o c.2 - o r * n2 * iv) (by grind) (by grind), ?_⟩
    have z : (o c.1 - o a.1 + σ * G * n2) * n2 - (o c.2 - o a.2 - σ * G * n1) * n1 = 0 := by
      refine eq_of_mul g0 ?_
      grind
    have e1 : o c.1 - o r * n1 * iv - (o a.1 + σ * (o a.1 - G * n2 - o a.1)) = (o c.1 - o a.1 + σ * G * n2) - o r * iv * n1 := by grind
    have e2 : o c.2 - o r * n2 * iv - (o a.2 + σ * (o a.2 + G * n1 - o a.2)) = (o c.2 - o a.2 - σ * G * n1) - o r * iv * n2 := by grind
    have hv2 : d * m = (o c.1 - o a.1 + σ * G * n2) * n1 + (o c.2 - o a.2 - σ * G * n1) * n2 - o r * m := by grind
    rw [e1, e2]
    generalize o c.1 - o a.1 + σ * G * n2 = U at *
    generalize o c.2 - o a.2 - σ * G * n1 = V at *
    refine eq_of_mul (Real.mul_pos m0 m0) ?_
    have e4 : ((U - o r * iv * n1) * (U - o r * iv * n1) + (V - o r * iv * n2) * (V - o r * iv * n2)) * (m * m) = ((U - o r * iv * n1) * n1 + (V - o r * iv * n2) * n2) * ((U - o r * iv * n1) * n1 + (V - o r * iv * n2) * n2) + (U * n2 - V * n1) * (U * n2 - V * n1) := by rw [mm]; grind
    rw [e4, z]
    have e5 : (U - o r * iv * n1) * n1 + (V - o r * iv * n2) * n2 = d * m := by
      rw [hv2]
      have : o r * iv * (n1 * n1 + n2 * n2) = o r * m := by rw [← mm]; grind
      grind
    rw [e5]
    grind
theorem pair_apt {A B : Th} (hA : GoodTh A) (hB : GoodTh B) {f g : Fc} (h1 : f ∈ facesL A) (h2 : g ∈ facesL B) {ρ : Rt} (h : farP f g = some ρ) (hp : 0 < val ρ) : Apt A B (val ρ) := by
  cases f <;> cases g
  · cases h
  · exact side_apt hA hB h1 h2 h hp
  · exact (side_apt hB hA h2 h1 h hp).symm
  · exact rounds_apt hA hB h1 h2 h hp
theorem far_ok {f g : Fc} {ρ : Rt} (h : farP f g = some ρ) : Ok ρ ∧ Cn ρ := by
  have side : ∀ {a b c : P2} {r : Int} {f l : P2}, sideP a b c r f l = some ρ → Ok ρ ∧ Cn ρ := fun {a b c r f l} h => by
    unfold sideP at h
    split at h
    · cases h
    · rw [← Option.some.inj h]
      exact ⟨ok_fr0 _, cn_fr0 _⟩
  cases f <;> cases g
  · cases h
  · exact side h
  · exact side h
  · rename_i c1 r1 f1 l1 c2 r2 f2 l2
    have h' : roundP c1 r1 f1 l1 c2 r2 f2 l2 = some ρ := h
    unfold roundP at h'
    split at h'
    · cases h'
    · rw [← Option.some.inj h']
      refine ⟨canon_ok ?_ (by decide), canon_cn ..⟩
      rw [← of_ge0, ← o_cast]
      unfold dot
      rw [o_add, o_mul, o_mul]
      have := Real.sq_nn (o (dif c2 c1).1)
      have := Real.sq_nn (o (dif c2 c1).2)
      grind
end Rs

/-! moved, turned, mirrored -/
namespace Rs
open Lb Ld Rl
inductive Mv where
  | shift (t : P2)
  | turn
  | mirror
def lin : Mv → P2 → P2
  | .shift _, u => u
  | .turn, u => (0 - u.2, u.1)
  | .mirror, u => (0 - u.1, u.2)
def mvP : Mv → P2 → P2
  | .shift t, p => (p.1 + t.1, p.2 + t.2)
  | .turn, p => (0 - p.2, p.1)
  | .mirror, p => (0 - p.1, p.2)
def mvT (m : Mv) : Th → Th
  | .spot p => .spot (mvP m p)
  | .cord p q => .cord (mvP m p) (mvP m q)
  | .bow c p q => match m with
    | .mirror => .bow (mvP m c) (mvP m q) (mvP m p)
    | _ => .bow (mvP m c) (mvP m p) (mvP m q)
theorem dif_mv (m : Mv) (a b : P2) : dif (mvP m a) (mvP m b) = lin m (dif a b) := by
  cases m <;> (unfold dif mvP lin; dsimp only; refine Prod.ext ?_ ?_ <;> dsimp only <;> omega)
theorem dot_lin (m : Mv) (u v : P2) : dot (lin m u) (lin m v) = dot u v := by
  cases m <;> (unfold dot lin; dsimp only) <;> grind
theorem crs_lin (m : Mv) (u v : P2) : crs (lin m u) (lin m v) = match m with | .mirror => crs v u | _ => crs u v := by
  cases m <;> (unfold crs lin; dsimp only) <;> grind
theorem far_mv (m : Mv) (a b : P2) : far (mvP m a) (mvP m b) = far a b := by
  unfold far
  rw [dif_mv, dot_lin]
theorem beside_int (a b c : P2) : besideR (toR c) a b ↔ 0 ≤ dot (dif c a) (dif b a) ∧ dot (dif c a) (dif b a) ≤ dot (dif b a) (dif b a) := by
  have e : dotR (difR (toR c) a) (dif b a) = ((dot (dif c a) (dif b a) : Int) : Rat) := by
    unfold dotR difR toR dot
    dsimp only
    rw [Rat.intCast_add, Rat.intCast_mul, Rat.intCast_mul]
    unfold dif
    dsimp only
    rw [Rat.intCast_sub c.1, Rat.intCast_sub c.2]
  unfold besideR
  rw [e, Rat.intCast_nonneg, Rat.intCast_le_intCast]
/-! the told distance -/
noncomputable def firstP (A B : Th) : Option Rt := (facesL A).findSome? fun f => (facesL B).findSome? fun g => match farP f g with
  | some ρ => if 0 < sg (val ρ) then some ρ else none
  | none => none
noncomputable def apR (A B : Th) : Rt := (firstP A B).getD ⟨0, 0, 0⟩
theorem sg_pos_iff {x : Real} : 0 < sg x ↔ 0 < x := by
  rcases sg_cases x with ⟨a, b⟩ | ⟨a, b⟩ | ⟨a, b⟩
  · rw [b]; exact ⟨fun _ => a, fun _ => by decide⟩
  · rw [b]; exact ⟨fun z => absurd z (by decide), fun z => by rw [a] at z; grind⟩
  · rw [b]; exact ⟨fun z => absurd z (by decide), fun z => by grind⟩
theorem apR_cases (A B : Th) : (∃ f ∈ facesL A, ∃ g ∈ facesL B, ∃ ρ, farP f g = some ρ ∧ 0 < val ρ ∧ apR A B = ρ) ∨ (apR A B = ⟨0, 0, 0⟩ ∧ ∀ f ∈ facesL A, ∀ g ∈ facesL B, ∀ ρ, farP f g = some ρ → ¬ 0 < val ρ) := by
  unfold apR
  cases h : firstP A B with
  | some ρ =>
    left
    obtain ⟨f, hf, h1⟩ := List.exists_of_findSome?_eq_some h
    obtain ⟨g, hg, h2⟩ := List.exists_of_findSome?_eq_some h1
    refine ⟨f, hf, g, hg, ?_⟩
    cases e : farP f g with
    | none => rw [e] at h2; cases h2
    | some ρ' =>
      rw [e] at h2
      dsimp only at h2
      split at h2
      · rename_i hp
        cases h2
        exact ⟨ρ, rfl, sg_pos_iff.mp hp, rfl⟩
      · cases h2
  | none =>
    right
    refine ⟨rfl, fun f hf g hg ρ e hp => ?_⟩
    have h1 := List.findSome?_eq_none_iff.mp h f hf
    have h2 := List.findSome?_eq_none_iff.mp h1 g hg
    rw [e] at h2
    dsimp only at h2
    rw [if_pos (sg_pos_iff.mpr hp)] at h2
    cases h2
theorem ap_ok (A B : Th) : Ok (apR A B) ∧ Cn (apR A B) := by
  rcases apR_cases A B with ⟨f, _, g, _, ρ, h, _, e⟩ | ⟨e, _⟩
  · rw [e]; exact far_ok h
  · rw [e]; exact ⟨ok_fr0 0, cn_fr0 0⟩
theorem ap_lb {A B : Th} (hA : GoodTh A) (hB : GoodTh B) : 0 ≤ val (apR A B) ∧ ∀ x y z w, InS A x y → InS B z w → val (apR A B) * val (apR A B) ≤ (z - x) * (z - x) + (w - y) * (w - y) := by
  rcases apR_cases A B with ⟨f, hf, g, hg, ρ, h, hp, e⟩ | ⟨e, _⟩
  · rw [e]
    have a := pair_apt hA hB hf hg h hp
    exact ⟨a.nn, a.lb⟩
  · rw [e, val_fr, Real.of_zero]
    refine ⟨by grind, fun x y z w _ _ => ?_⟩
    have := Real.sq_nn (z - x)
    have := Real.sq_nn (w - y)
    grind
end Rs

namespace Rs
open Lb Ld Rl
/-- unlike roots in form have unlike values -/
theorem val_inj' {x y : Rt} (hx : Ok x) (hy : Ok y) (cx : Cn x) (cy : Cn y) (h : val x = val y) : x = y := by
  have su : Real.of (x.s : Rat) * rtq x.q * (Real.of (x.s : Rat) * rtq x.q) = Real.of x.q := by rw [← s_sq hx]; grind
  have sv : Real.of (y.s : Rat) * rtq y.q * (Real.of (y.s : Rat) * rtq y.q) = Real.of y.q := by rw [← s_sq hy]; grind
  have e := nrm4_eq (d := x.b - y.b) su sv
  have z : Real.of (x.b - y.b) + Real.of (x.s : Rat) * rtq x.q - Real.of (y.s : Rat) * rtq y.q = 0 := by
    unfold val at h
    rw [Real.of_sub]
    grind
  rw [z] at e
  have n0 : nrm4 (x.b - y.b) x.q y.q = 0 := by
    rw [← Real.of_inj, ← e, Real.of_zero]
    grind
  rcases nrm4_zero hx hy cx cy n0 with e | ⟨e1, e2, e3, e4⟩
  · exact e
  · have rp := rtq_pos (hx.p e3)
    have : Real.of ((-y.s : Int) : Rat) = - Real.of (y.s : Rat) := ofI_neg _
    rw [← e4] at this
    unfold val at h
    have hb : Real.of x.b = Real.of y.b := by rw [e1]
    have hq : rtq x.q = rtq y.q := by rw [e2]
    rw [hq] at rp
    have w : Real.of (x.s : Rat) * rtq y.q = 0 := by
      rw [hb, hq] at h
      have w2 : Real.of (x.s : Rat) * rtq y.q + Real.of (x.s : Rat) * rtq y.q = 0 := by
        have e5 : Real.of (x.s : Rat) * rtq y.q = - (Real.of (y.s : Rat) * rtq y.q) := by rw [this]; grind
        clear e su sv z n0
        generalize Real.of (x.s : Rat) * rtq y.q = u at *
        generalize Real.of (y.s : Rat) * rtq y.q = v at *
        grind
      generalize Real.of (x.s : Rat) * rtq y.q = u at w2 ⊢
      rcases Real.tri' u 0 with z | z | z
      · grind
      · exact z
      · grind
    rcases hx.s with s | s | s
    · rw [s, of_intm1] at w; grind
    · exact absurd s e3
    · rw [s, of_int1] at w; grind
/-! one step does not make it farther -/
/-! and back -/
def ptsOf : Th → List P2
  | .spot p => [p]
  | .cord p q => [p, q]
  | .bow c p q => [c, p, q]
theorem good_shift {T : Th} {t : P2} (h : GoodTh T) (hb : ∀ p ∈ ptsOf T, Bd (mvP (.shift t) p)) : GoodTh (mvT (.shift t) T) := by
  have ne : ∀ {p q : P2}, p ≠ q → mvP (.shift t) p ≠ mvP (.shift t) q := fun {p q} h z => h (by
    have z1 := congrArg Prod.fst z
    have z2 := congrArg Prod.snd z
    unfold mvP at z1 z2
    dsimp only at z1 z2
    exact Prod.ext (by omega) (by omega))
  cases T with
  | spot p => exact hb p (by simp [ptsOf])
  | cord p q => exact ⟨hb p (by simp [ptsOf]), hb q (by simp [ptsOf]), ne h.2.2.1, by rw [far_mv]; exact h.2.2.2⟩
  | bow c p q =>
    obtain ⟨h1, h2, h3, h4⟩ := h
    exact ⟨hb c (by simp [ptsOf]), hb p (by simp [ptsOf]), hb q (by simp [ptsOf]), ne h4.ne, by rw [far_mv, far_mv]; exact h4.eq, by rw [far_mv]; exact h4.wr, by rw [far_mv]; exact h4.wd, by rw [dif_mv, dif_mv, crs_lin]; exact h4.tn⟩
/-! how distances fit -/
end Rs

namespace Ld
open PySem PySem.Spec PyProof.Rows L2 Bl Lb
def t_field_sign : TSd := sSeq (sIf (tOrD (tbl (dTwo (dTwo (dCall m_sign_of 1 0 (fun ds _ => ds) (aCons (vr 0) (aNil)) aNil) (dCall m_sign_of 1 0 (fun ds _ => ds) (aCons (vr 1) (aNil)) aNil) fMul) (cn (.int 0)) fGe)) (tbl (dTwo (vr 2) (cn (.int 0)) fEq))) (sRet (eIf (tbl (dTwo (vr 2) (cn (.int 0)) fEq)) (dCall m_sign_of 1 0 (fun ds _ => ds) (aCons (vr 0) (aNil)) aNil) (dCall m_sign_of 1 0 (fun ds _ => ds) (aCons (dTwo (dCall m_sign_of 1 0 (fun ds _ => ds) (aCons (vr 0) (aNil)) aNil) (dCall m_sign_of 1 0 (fun ds _ => ds) (aCons (vr 1) (aNil)) aNil) fAdd) (aNil)) aNil))) (sNx)) (sRet (dTwo (dCall m_sign_of 1 0 (fun ds _ => ds) (aCons (vr 0) (aNil)) aNil) (dCall m_sign_of 1 0 (fun ds _ => ds) (aCons (dTwo (dTwo (vr 0) (vr 0) fMul) (dTwo (dTwo (vr 1) (vr 1) fMul) (vr 2) fMul) fSub) (aNil)) aNil) fMul))
def m_field_sign : TFd := fnD 3 3 t_field_sign
def t_root_sign : TSd := sSeq (sAsg (vr 0) (.tp (.nm 1 :: .nm 2 :: .nm 3 :: []))) (sSeq (sAsg (dTwo (dTwo (vr 1) (cn (.int 1)) fIx) (dTwo (vr 3) (cn (.int 1)) fIx) fMul) (.nm 4)) (sRet (dCall m_field_sign 3 0 (fun ds _ => ds) (aCons (dTwo (dTwo (dTwo (vr 1) (cn (.int 0)) fIx) (dTwo (vr 3) (cn (.int 1)) fIx) fMul) (dTwo (vr 3) (cn (.int 1)) fIx) fMul) (aCons (dTwo (vr 2) (vr 4) fMul) (aCons (dTwo (dTwo (vr 3) (cn (.int 0)) fIx) (dTwo (vr 3) (cn (.int 1)) fIx) fMul) (aNil)))) aNil)))
def m_root_sign : TFd := fnD 1 5 t_root_sign
def t_against : TSd := sRet (dTup (aCons (dTwo (cn (.int 0)) (dTwo (vr 0) (cn (.int 0)) fIx) fSub) (aCons (dTwo (cn (.int 0)) (dTwo (vr 0) (cn (.int 1)) fIx) fSub) (aNil))))
def m_against : TFd := fnD 1 1 t_against
theorem e_against {a0 : D} {S : Sto} {Q : DK} {E : EK} (k : t_against [some a0] S ⟨fun _ S1 => Q .non S1, Q, fun _ _ => False, fun _ _ => False, fun x _ S1 => E x S1⟩) : m_against [a0] S Q E := ⟨rfl, k⟩
def t_rounds_apart : TSd := sSeq (sAsg (dCall m_step_from 2 0 (fun ds _ => ds) (aCons (dTwo (vr 1) (cn (.int 1)) fIx) (aCons (dTwo (vr 0) (cn (.int 1)) fIx) (aNil))) aNil) (.nm 2)) (sSeq (sIf (tOrD (tbl (dTwo (vr 2) (dTup (aCons (cn (.int 0)) (aCons (cn (.int 0)) (aNil)))) fEq)) (tOrD (tNotD (ttr (dCall m_is_out 2 0 (fun ds _ => ds) (aCons (vr 0) (aCons (vr 2) (aNil))) aNil))) (tNotD (ttr (dCall m_is_out 2 0 (fun ds _ => ds) (aCons (vr 1) (aCons (dCall m_against 1 0 (fun ds _ => ds) (aCons (vr 2) (aNil)) aNil) (aNil))) aNil))))) (sRet (cn .non)) (sNx)) (sRet (dCall m_root 1 2 (fun a b => g_root_sign_square a b) (aCons (dTup (aCons (dTwo (dTwo (cn (.int 0)) (dTwo (vr 0) (cn (.int 2)) fIx) fSub) (dTwo (vr 1) (cn (.int 2)) fIx) fSub) (aCons (cn (.int 1)) (aNil)))) (aNil)) (aCons (cn (.int 1)) (aCons (dTup (aCons (dCall m_dot_of 2 0 (fun ds _ => ds) (aCons (vr 2) (aCons (vr 2) (aNil))) aNil) (aCons (cn (.int 1)) (aNil)))) (aNil))))))
def m_rounds_apart : TFd := fnD 2 3 t_rounds_apart
theorem e_rounds_apart {a0 a1 : D} {S : Sto} {Q : DK} {E : EK} (k : t_rounds_apart [some a0, some a1, none] S ⟨fun _ S1 => Q .non S1, Q, fun _ _ => False, fun _ _ => False, fun x _ S1 => E x S1⟩) : m_rounds_apart [a0, a1] S Q E := ⟨rfl, k⟩
def t_side_apart : TSd := sSeq (sAsg (dCall m_outward 2 0 (fun ds _ => ds) (aCons (dTwo (vr 0) (cn (.int 1)) fIx) (aCons (dTwo (vr 0) (cn (.int 2)) fIx) (aNil))) aNil) (.nm 2)) (sSeq (sAsg (dTup (aCons (dTwo (dTwo (vr 1) (cn (.int 1)) fIx) (cn (.int 0)) fIx) (aCons (dTwo (dTwo (vr 1) (cn (.int 1)) fIx) (cn (.int 1)) fIx) (aCons (cn (.int 1)) (aNil))))) (.nm 3)) (sSeq (sIf (tOrD (tNotD (ttr (dCall m_is_beside 2 0 (fun ds _ => ds) (aCons (vr 0) (aCons (vr 3) (aNil))) aNil))) (tNotD (ttr (dCall m_is_out 2 0 (fun ds _ => ds) (aCons (vr 1) (aCons (dCall m_against 1 0 (fun ds _ => ds) (aCons (vr 2) (aNil)) aNil) (aNil))) aNil)))) (sRet (cn .non)) (sNx)) (sRet (dCall m_from_frac 1 0 (fun ds _ => ds) (aCons (dCall m_frac 2 0 (fun ds _ => ds ++ []) (aCons (dTwo (dCall m_side_height 2 0 (fun ds _ => ds) (aCons (vr 0) (aCons (vr 3) (aNil))) aNil) (dTwo (dTwo (vr 1) (cn (.int 2)) fIx) (dCall m_length_of 1 0 (fun ds _ => ds) (aCons (vr 2) (aNil)) aNil) fMul) fSub) (aCons (dCall m_length_of 1 0 (fun ds _ => ds) (aCons (vr 2) (aNil)) aNil) (aNil))) aNil) (aNil)) aNil))))
def m_side_apart : TFd := fnD 2 4 t_side_apart
theorem e_side_apart {a0 a1 : D} {S : Sto} {Q : DK} {E : EK} (k : t_side_apart [some a0, some a1, none, none] S ⟨fun _ S1 => Q .non S1, Q, fun _ _ => False, fun _ _ => False, fun x _ S1 => E x S1⟩) : m_side_apart [a0, a1] S Q E := ⟨rfl, k⟩
def t_faces_apart : TSd := sSeq (sIf (tAndD (tbl (dTwo (dTwo (vr 0) (cn (.int 0)) fIx) (cn (.str "side")) fEq)) (tbl (dTwo (dTwo (vr 1) (cn (.int 0)) fIx) (cn (.str "side")) fEq))) (sRet (cn .non)) (sNx)) (sSeq (sIf (tbl (dTwo (dTwo (vr 0) (cn (.int 0)) fIx) (cn (.str "side")) fEq)) (sRet (dCall m_side_apart 2 0 (fun ds _ => ds) (aCons (vr 0) (aCons (vr 1) (aNil))) aNil)) (sNx)) (sRet (eIf (tbl (dTwo (dTwo (vr 1) (cn (.int 0)) fIx) (cn (.str "side")) fEq)) (dCall m_side_apart 2 0 (fun ds _ => ds) (aCons (vr 1) (aCons (vr 0) (aNil))) aNil) (dCall m_rounds_apart 2 0 (fun ds _ => ds) (aCons (vr 0) (aCons (vr 1) (aNil))) aNil))))
def m_faces_apart : TFd := fnD 2 2 t_faces_apart
theorem e_faces_apart {a0 a1 : D} {S : Sto} {Q : DK} {E : EK} (k : t_faces_apart [some a0, some a1] S ⟨fun _ S1 => Q .non S1, Q, fun _ _ => False, fun _ _ => False, fun x _ S1 => E x S1⟩) : m_faces_apart [a0, a1] S Q E := ⟨rfl, k⟩
def t_apart : TSd := sSeq (sFor (iVal (dCall m_faces 1 0 (fun ds _ => ds) (aCons (vr 0) (aNil)) aNil)) (.nm 2) (sFor (iVal (dCall m_faces 1 0 (fun ds _ => ds) (aCons (vr 1) (aNil)) aNil)) (.nm 3) (sSeq (sAsg (dCall m_faces_apart 2 0 (fun ds _ => ds) (aCons (vr 2) (aCons (vr 3) (aNil))) aNil) (.nm 4)) (sIf (tAndD (tbl (dTwo (vr 4) (cn .non) fIsNot)) (tbl (dTwo (dCall m_root_sign 1 0 (fun ds _ => ds) (aCons (vr 4) (aNil)) aNil) (cn (.int 0)) fGt))) (sRet (vr 4)) (sNx))))) (sRet (dCall m_from_frac 1 0 (fun ds _ => ds) (aCons (cn k_ZERO) (aNil)) aNil))
def m_apart : TFd := fnD 2 5 t_apart
theorem e_apart {a0 a1 : D} {S : Sto} {Q : DK} {E : EK} (k : t_apart [some a0, some a1, none, none, none] S ⟨fun _ S1 => Q .non S1, Q, fun _ _ => False, fun _ _ => False, fun x _ S1 => E x S1⟩) : m_apart [a0, a1] S Q E := ⟨rfl, k⟩
def t_l_product : TSd := sRet (dCall m_l_low 2 0 (fun ds _ => ds) (aCons (dTwo (dTwo (vr 0) (cn (.int 0)) fIx) (dTwo (vr 1) (cn (.int 0)) fIx) fMul) (aCons (dTwo (dTwo (vr 0) (cn (.int 1)) fIx) (dTwo (vr 1) (cn (.int 1)) fIx) fMul) (aNil))) aNil)
def m_l_product : TFd := fnD 2 2 t_l_product
theorem e_l_product {a0 a1 : D} {S : Sto} {Q : DK} {E : EK} (k : t_l_product [some a0, some a1] S ⟨fun _ S1 => Q .non S1, Q, fun _ _ => False, fun _ _ => False, fun x _ S1 => E x S1⟩) : m_l_product [a0, a1] S Q E := ⟨rfl, k⟩
def t_l_contrary : TSd := sRet (dTup (aCons (dTwo (cn (.int 0)) (dTwo (vr 0) (cn (.int 0)) fIx) fSub) (aCons (dTwo (vr 0) (cn (.int 1)) fIx) (aNil))))
def m_l_contrary : TFd := fnD 1 1 t_l_contrary
theorem e_l_contrary {a0 : D} {S : Sto} {Q : DK} {E : EK} (k : t_l_contrary [some a0] S ⟨fun _ S1 => Q .non S1, Q, fun _ _ => False, fun _ _ => False, fun x _ S1 => E x S1⟩) : m_l_contrary [a0] S Q E := ⟨rfl, k⟩
end Ld

namespace Ld
open PySem PySem.Spec PyProof.Rows L2 Bl Lb Rl Rs
theorem root_sign_spec {x : Rt} {n m : Nat} {S : Sto} {Q : DK} {E : EK} (hb : sr n x.b) (hq : sr m x.q) (hs : x.s = -1 ∨ x.s = 0 ∨ x.s = 1) (h0 : 0 ≤ x.q) (hn : n + 2 * m ≤ 20000) (k : Q (.int (sg (val x))) S) : m_root_sign [rt x] S Q E :=
  Lr.root_sign_spec hb hq hs h0 hn k
theorem against_spec {u : P2} {S : Sto} {Q : DK} {E : EK} (k : Q (pt (neg2 u)) S) : m_against [pt u] S Q E := by
  refine e_against ?_
  unfold t_against
  walk_at "bl"
  exact k
theorem neg2_sm {u : P2} {n : Nat} (h1 : sm n u.1) (h2 : sm n u.2) : sm n (neg2 u).1 ∧ sm n (neg2 u).2 := by
  unfold neg2 sm at *
  dsimp only
  exact ⟨by omega, by omega⟩
def optD : Option Rt → D
  | none => .non
  | some ρ => rt ρ
theorem out_spec {u : P2} {c f l : P2} {r : Int} {n : Nat} {S : Sto} {Q : DK} {E : EK} (hf : DirOk n f) (hl : DirOk n l) (u1 : sm n u.1) (u2 : sm n u.2) (hn : n ≤ 4000) (k : Q (.bl (decide (outI f l u))) S) : m_is_out [fcD (.round c r f l), pt u] S Q E :=
  is_out_spec hf.s1 hf.s2 hl.s1 hl.s2 u1 u2 hn k
theorem rounds_apart_spec {c1 f1 l1 c2 f2 l2 : P2} {r1 r2 : Int} {S : Sto} {Q : DK} {E : EK} (h1 : FcGood 12 (.round c1 r1 f1 l1)) (h2 : FcGood 12 (.round c2 r2 f2 l2)) (k : Q (optD (roundP c1 r1 f1 l1 c2 r2 f2 l2)) S) : m_rounds_apart [fcD (.round c1 r1 f1 l1), fcD (.round c2 r2 f2 l2)] S Q E := by
  refine e_rounds_apart ?_
  unfold t_rounds_apart
  obtain ⟨a1, a2, a3, a4, a5⟩ := h1
  obtain ⟨b1, b2, b3, b4, b5⟩ := h2
  obtain ⟨s1, s2⟩ := sm_dif b3 a3
  obtain ⟨t1, t2⟩ := neg2_sm s1 s2
  unfold roundP at k
  have w1 : fcD (.round c1 r1 f1 l1) = .tup [.str "round", pt c1, .int r1, pt f1, pt l1] := rfl
  have w2 : fcD (.round c2 r2 f2 l2) = .tup [.str "round", pt c2, .int r2, pt f2, pt l2] := rfl
  rw [w1, w2]
  walk_at "bl"
  refine step_spec ?_
  walk_at "bl"
  refine eq_pt (b := (0, 0)) ?_
  walk_at "bl"
  refine Go.ifD (fun h => ?_) fun h => ?_
  · rw [if_pos (.inl h)] at k
    walk_at "bl"
    exact k
  walk_at "bl"
  rw [← w1]
  refine out_spec (n := 12) a1 a2 s1 s2 (by decide) ?_
  walk_at "bl"
  refine Go.ifD (fun h3 => ?_) fun h3 => ?_
  · rw [w1]
    walk_at "bl"
    refine against_spec ?_
    walk_at "bl"
    rw [← w2]
    refine out_spec (n := 12) b1 b2 t1 t2 (by decide) ?_
    walk_at "bl"
    refine Go.ifD (fun h4 => ?_) fun h4 => ?_
    · rw [if_neg (fun z => z.elim h fun z => z.elim (fun z => z h3) fun z => z h4)] at k
      rw [w2]
      walk_at "bl"
      refine dot_spec s1 s2 s1 s2 (by decide) ?_
      walk_at "bl"
      have N0 : (0 : Rat) ≤ ((dot (dif c2 c1) (dif c2 c1) : Int) : Rat) := by
        rw [Rat.intCast_nonneg]
        have := far_nonneg c2 c1
        exact this
      refine root_spec (b := ((0 - r1 - r2 : Int) : Rat)) (q := ((dot (dif c2 c1) (dif c2 c1) : Int) : Rat)) (n := 40) (sr.int (((((sm.of (n := 25) (by decide)).sub a5).mono (show 26 ≤ 27 by decide)).sub (b5.mono (by decide))).mono (by decide)) (by decide)) (sr.int ((sm_dot s1 s2 s1 s2).mono (by decide)) (by decide)) N0 (.inr (.inr rfl)) (by decide) ?_
      walk_at "bl"
      exact k
    · rw [if_pos (.inr (.inr h4))] at k
      walk_at "bl"
      exact k
  · rw [if_pos (.inr (.inl h3))] at k
    walk_at "bl"
    exact k
theorem wp_point {c : P2} (hc : Bd c) : Wp 12 (toR c) c.1 c.2 1 := by
  have h1 := hc.1
  have h2 := hc.2
  have one : ((1 : Int) : Rat) = 1 := rfl
  exact ⟨by decide, by unfold toR; rw [one]; grind, by unfold toR; rw [one]; grind, by unfold sm; omega, by unfold sm; omega, by unfold sm; decide⟩
theorem height_int (a b c : P2) : heightR (toR c) a b = ((dot (dif c a) (outw a b) : Int) : Rat) := by
  unfold heightR dotR difR toR dot
  dsimp only
  rw [Rat.intCast_add, Rat.intCast_mul, Rat.intCast_mul]
  unfold dif
  dsimp only
  rw [Rat.intCast_sub c.1, Rat.intCast_sub c.2]
theorem side_apart_spec {a b c f l : P2} {r : Int} {S : Sto} {Q : DK} {E : EK} (h1 : FcGood 12 (.side a b)) (h2 : FcGood 12 (.round c r f l)) (k : Q (optD (sideP a b c r f l)) S) : m_side_apart [fcD (.side a b), fcD (.round c r f l)] S Q E := by
  refine e_side_apart ?_
  unfold t_side_apart
  obtain ⟨hne, ha, hb, hw⟩ := id h1
  obtain ⟨b1, b2, b3, b4, b5⟩ := h2
  have o := outw_ok hne ha hb hw
  obtain ⟨t1, t2⟩ := neg2_sm o.s1 o.s2
  have w := wp_point b3
  unfold sideP at k
  have w1 : fcD (.side a b) = .tup [.str "side", pt a, pt b] := rfl
  have w2 : fcD (.round c r f l) = .tup [.str "round", pt c, .int r, pt f, pt l] := rfl
  rw [w1, w2]
  walk_at "bl"
  refine outward_spec hne ha hb ?_
  walk_at "bl"
  rw [← w1]
  refine is_beside_spec w ha hb (by decide) ?_
  walk_at "bl"
  refine Go.ifD (fun h3 => ?_) fun h3 => ?_
  · walk_at "bl"
    refine against_spec ?_
    walk_at "bl"
    rw [← w2]
    refine out_spec (n := 12) b1 b2 t1 t2 (by decide) ?_
    walk_at "bl"
    refine Go.ifD (fun h4 => ?_) fun h4 => ?_
    · rw [if_neg (fun z => z.elim (fun z => z h3) fun z => z h4)] at k
      walk_at "bl"
      refine side_height_spec (a := a) (b := b) w h1 (by decide) fun h eh sh => ?_
      have he : h = dot (dif c a) (outw a b) := by
        rw [height_int, show ((1 : Int) : Rat) = 1 from rfl] at eh
        exact Rat.intCast_inj.mp (by rw [eh]; grind)
      subst he
      have l0 := lenq_pos o.ne
      have ls := lenq_sm o.s1 o.s2
      rw [w2]
      walk_at "bl"
      refine length_spec o.s1 o.s2 (by decide) ?_
      walk_at "bl"
      refine Go.mul ((b5.mono (by decide : 25 ≤ 40)).cmul (ls.mono (by decide : _ ≤ 40)) (by decide)) ?_
      walk_at "bl"
      refine length_spec o.s1 o.s2 (by decide) ?_
      walk_at "bl"
      refine frac_spec (n := 82) (r := ((dot (dif c a) (outw a b) - r * lenq (outw a b) : Int) : Rat) / ((lenq (outw a b) : Int) : Rat)) (by omega) ((sh.mono (by decide : _ ≤ 80)).sub (((b5.mono (by decide : 25 ≤ 40)).mul (ls.mono (by decide : _ ≤ 40))).mono (by decide)) |>.mono (by decide)) (ls.mono (by decide)) (by decide) (Rat.div_mul_cancel (castne (by omega))) ?_
      walk_at "bl"
      refine from_frac_spec ?_
      exact k
    · rw [if_pos (.inr h4)] at k
      walk_at "bl"
      exact k
  · rw [if_pos (.inl h3)] at k
    walk_at "bl"
    exact k
theorem faces_apart_spec {f g : Fc} {S : Sto} {Q : DK} {E : EK} (h1 : FcGood 12 f) (h2 : FcGood 12 g) (k : Q (optD (farP f g)) S) : m_faces_apart [fcD f, fcD g] S Q E := by
  refine e_faces_apart ?_
  unfold t_faces_apart
  cases f with
  | side a b =>
    have w1 : fcD (.side a b) = .tup [.str "side", pt a, pt b] := rfl
    cases g with
    | side c d =>
      have w2 : fcD (.side c d) = .tup [.str "side", pt c, pt d] := rfl
      rw [w1, w2]
      walk_at "bl"
      exact k
    | round c r f l =>
      have w2 : fcD (.round c r f l) = .tup [.str "round", pt c, .int r, pt f, pt l] := rfl
      rw [w1, w2]
      walk_at "bl"
      rw [← w1, ← w2]
      exact side_apart_spec h1 h2 k
  | round c r f l =>
    have w2 : fcD (.round c r f l) = .tup [.str "round", pt c, .int r, pt f, pt l] := rfl
    cases g with
    | side a b =>
      have w1 : fcD (.side a b) = .tup [.str "side", pt a, pt b] := rfl
      rw [w1, w2]
      walk_at "bl"
      rw [← w1, ← w2]
      exact side_apart_spec h2 h1 k
    | round c2 r2 f2 l2 =>
      have w1 : fcD (.round c2 r2 f2 l2) = .tup [.str "round", pt c2, .int r2, pt f2, pt l2] := rfl
      rw [w1, w2]
      walk_at "bl"
      rw [← w1, ← w2]
      exact rounds_apart_spec h1 h2 k
theorem far_sr {f g : Fc} {ρ : Rt} (h1 : FcGood 12 f) (h2 : FcGood 12 g) (h : farP f g = some ρ) : sr 100 ρ.b ∧ sr 100 ρ.q := by
  have side : ∀ {a b c : P2} {r : Int} {f l : P2}, FcGood 12 (.side a b) → FcGood 12 (.round c r f l) → sideP a b c r f l = some ρ → sr 100 ρ.b ∧ sr 100 ρ.q := fun {a b c r f l} h1 h2 h => by
    obtain ⟨hne, ha, hb, hw⟩ := h1
    obtain ⟨b1, b2, b3, b4, b5⟩ := h2
    have o := outw_ok hne ha hb hw
    have l0 := lenq_pos o.ne
    have ls := lenq_sm o.s1 o.s2
    obtain ⟨s1, s2⟩ := sm_dif b3 ha
    unfold sideP at h
    split at h
    · cases h
    · rw [← Option.some.inj h]
      have z := low_sm (n := 82) (m := 82) (r := ((dot (dif c a) (outw a b) - r * lenq (outw a b) : Int) : Rat) / ((lenq (outw a b) : Int) : Rat)) (show (lenq (outw a b) : Int) ≠ 0 by omega) (Rat.div_mul_cancel (castne (by omega))) ((((sm_dot s1 s2 o.s1 o.s2).mono (by decide : _ ≤ 80)).sub (((b5.mono (by decide : 25 ≤ 40)).mul (ls.mono (by decide : _ ≤ 40))).mono (by decide))).mono (by decide)) (ls.mono (by decide))
      exact ⟨⟨z.1.mono (by decide), z.2.mono (by decide)⟩, sr.zero.mono (by decide : 1 ≤ 100)⟩
  cases f <;> cases g
  · cases h
  · exact side h1 h2 h
  · exact side h2 h1 h
  · rename_i c1 r1 f1 l1 c2 r2 f2 l2
    have h' : roundP c1 r1 f1 l1 c2 r2 f2 l2 = some ρ := h
    obtain ⟨_, _, a3, _, a5⟩ := h1
    obtain ⟨_, _, b3, _, b5⟩ := h2
    obtain ⟨s1, s2⟩ := sm_dif b3 a3
    unfold roundP at h'
    split at h'
    · cases h'
    · rw [← Option.some.inj h']
      have N0 : (0 : Rat) ≤ ((dot (dif c2 c1) (dif c2 c1) : Int) : Rat) := by
        rw [Rat.intCast_nonneg]
        exact far_nonneg c2 c1
      obtain ⟨x, y, _⟩ := canon_sr (b := ((0 - r1 - r2 : Int) : Rat)) (q := ((dot (dif c2 c1) (dif c2 c1) : Int) : Rat)) (s := 1) (n := 40) (m := 40) (sr.int (((((sm.of (n := 25) (by decide)).sub a5).mono (show 26 ≤ 27 by decide)).sub (b5.mono (by decide))).mono (by decide)) (by decide)) (sr.int ((sm_dot s1 s2 s1 s2).mono (by decide)) (by decide)) N0 (.inr (.inr rfl))
      exact ⟨x.mono (by decide), y.mono (by decide)⟩
noncomputable def hit (f g : Fc) : Option Rt := match farP f g with
  | some ρ => if 0 < sg (val ρ) then some ρ else none
  | none => none
theorem apart_spec {A B : Th} {S : Sto} {Q : DK} {E : EK} (hA : GoodTh A) (hB : GoodTh B) (k : Q (rt (apR A B)) S) : m_apart [thD A, thD B] S Q E := by
  refine e_apart ?_
  unfold t_apart
  walk_at "bl"
  refine faces_spec hA ?_
  unfold fcsD
  walk_at "bl"
  refine forD_map (f := fcD) (fun fs e s => ∃ o2 o3 o4, e = [some (thD A), some (thD B), o2, o3, o4] ∧ s = S ∧ (∀ f ∈ fs, FcGood 12 f) ∧ (fs.findSome? fun f => (facesL B).findSome? fun g => hit f g).getD ⟨0, 0, 0⟩ = apR A B) ?_ ?_ (facesL A) ⟨_, _, _, rfl, rfl, faces_good hA, rfl⟩
  · rintro f fs e s ⟨o2, o3, o4, rfl, rfl, hg, ha⟩
    refine ⟨_, rfl, fun N' hnx _ hrt _ _ => ?_⟩
    show sFor _ _ _ [some (thD A), some (thD B), some (fcD f), o3, o4] _ _
    walk_at "bl"
    refine faces_spec hB ?_
    unfold fcsD
    walk_at "bl"
    refine forD_map (f := fcD) (fun gs e s' => ∃ o3 o4, e = [some (thD A), some (thD B), some (fcD f), o3, o4] ∧ s' = s ∧ (∀ g ∈ gs, FcGood 12 g) ∧ ((gs.findSome? fun g => hit f g).or (fs.findSome? fun f => (facesL B).findSome? fun g => hit f g)).getD ⟨0, 0, 0⟩ = apR A B) ?_ ?_ (facesL B) ⟨_, _, rfl, rfl, faces_good hB, ?_⟩
    · rintro g gs e s' ⟨o3, o4, rfl, rfl, hg2, ha2⟩
      refine ⟨_, rfl, fun N2 hnx2 _ hrt2 _ _ => ?_⟩
      show sSeq _ _ [some (thD A), some (thD B), some (fcD f), some (fcD g), o4] _ _
      have gf := hg f (List.mem_cons_self ..)
      have gg := hg2 g (List.mem_cons_self ..)
      walk_at "bl"
      refine faces_apart_spec gf gg ?_
      cases h : farP f g with
      | none =>
        have hh : hit f g = none := by unfold hit; rw [h]
        rw [List.findSome?_cons, hh] at ha2
        walk_at "bl"
        refine Go.ifBT (c := isN (optD none)) rfl ?_
        walk_at "bl"
        exact hnx2 _ _ ⟨_, _, rfl, rfl, fun y hy => hg2 y (List.mem_cons_of_mem _ hy), ha2⟩
      | some ρ =>
        obtain ⟨ok, _⟩ := far_ok h
        obtain ⟨s1, s2⟩ := far_sr gf gg h
        walk_at "bl"
        refine Go.ifBF (c := isN (optD (some ρ))) rfl ?_
        walk_at "bl"
        refine root_sign_spec s1 s2 ok.s ok.q0 (by decide) ?_
        walk_at "bl"
        refine Go.ifD (fun hp => ?_) fun hp => ?_
        · have hh : hit f g = some ρ := by unfold hit; rw [h]; exact if_pos hp
          rw [List.findSome?_cons, hh] at ha2
          have e : ρ = apR A B := ha2
          walk_at "bl"
          rw [hrt2, hrt]
          rw [e]
          exact k
        · have hh : hit f g = none := by unfold hit; rw [h]; exact if_neg hp
          rw [List.findSome?_cons, hh] at ha2
          exact hnx2 _ _ ⟨_, _, rfl, rfl, fun y hy => hg2 y (List.mem_cons_of_mem _ hy), ha2⟩
    · rintro e s' ⟨o3, o4, rfl, rfl, _, ha2⟩
      exact hnx _ _ ⟨_, _, _, rfl, rfl, fun y hy => hg y (List.mem_cons_of_mem _ hy), ha2⟩
    · rw [List.findSome?_cons] at ha
      rw [← ha]
      cases (List.findSome? (fun g => hit f g) (facesL B)) <;> rfl
  · rintro e s ⟨o2, o3, o4, rfl, rfl, _, ha⟩
    walk_at "bl"
    refine from_frac_spec (r := 0) ?_
    have e : (⟨0, 0, 0⟩ : Rt) = apR A B := ha
    rw [e]
    exact k
end Ld

namespace Rl
open Lb
/-! ### the square root of a real number -/
def nn0 (q : Rat) : Rat := if q < 0 then 0 else q
theorem nn0_nn (q : Rat) : 0 ≤ nn0 q := by
  unfold nn0
  split
  · exact Rat.le_refl
  · rename_i h
    exact Rat.not_lt.mp h
theorem nn0_sub {p q d : Rat} (hd : 0 < d) (h : p - q < d) : nn0 p - nn0 q < d := by
  have h1 := nn0_nn q
  unfold nn0 at *
  split <;> (split <;> grind)
noncomputable def rootQ (a : Sq) : Sq := ⟨fun n => apx (nn0 (a.f n)) (nn0_nn _) n, fun e he => by
  have ee : 0 < e * e := Rat.mul_pos he he
  obtain ⟨d, d0, dd⟩ := half ee
  obtain ⟨g, g0, gg⟩ := half he
  obtain ⟨N, hN⟩ := a.c d d0
  obtain ⟨M, hM⟩ := arch g0
  refine ⟨max N M, fun m n hm hn => ?_⟩
  have h1 := nn0_sub d0 (hN m n (by omega) (by omega))
  obtain ⟨a0, a1, a2⟩ := apx_spec (nn0_nn (a.f m)) m
  obtain ⟨b0, b1, b2⟩ := apx_spec (nn0_nn (a.f n)) n
  have dl := dn_le (show M ≤ n by omega)
  have dp := dn_pos n
  show apx (nn0 (a.f m)) (nn0_nn _) m - apx (nn0 (a.f n)) (nn0_nn _) n < e
  generalize apx (nn0 (a.f m)) (nn0_nn _) m = s at *
  generalize apx (nn0 (a.f n)) (nn0_nn _) n = t at *
  generalize nn0 (a.f m) = p at *
  generalize nn0 (a.f n) = q at *
  generalize dn n = k at *
  rcases rat_lt_or_le (s - t) e with z | z
  · exact z
  · exfalso
    have u1 := Rat.mul_nonneg (show 0 ≤ s - (t + e) by grind) (show 0 ≤ s + (t + e) by grind)
    have u2 := Rat.mul_nonneg (show 0 ≤ e - k - g by grind) (show 0 ≤ 2 * t + e + k by grind)
    have u3 := Rat.mul_nonneg (show 0 ≤ g by grind) (show 0 ≤ 2 * t + k by grind)
    have e1 : (e - k) * (2 * t + e + k) = (t + e) * (t + e) - (t + k) * (t + k) := by grind
    have e2 : g * (2 * t + e + k) = g * (2 * t + k) + g * e := by grind
    have e3 : g * e + g * e = e * e := by rw [← gg]; grind
    have e4 : d + d = e * e := dd
    grind⟩
theorem rsq_ex {x : Real} (h : 0 ≤ x) : ∃ y : Real, 0 ≤ y ∧ y * y = x := by
  rcases Real.tri' x 0 with z | z | z
  · grind
  · exact ⟨0, by grind, by grind⟩
  · revert h z
    refine Quotient.inductionOn x fun a h z => ?_
    have hp : PosS a := by
      have : Real.Pos (Real.mk a - 0) := z
      have e : Real.mk a - 0 = Real.mk a := by grind
      rw [e] at this
      exact this
    obtain ⟨e0, ep, N0, hN0⟩ := hp
    refine ⟨Real.mk (rootQ a), ?_, ?_⟩
    · rw [Real.le_def]
      rintro ⟨e, e0, N, hN⟩
      have h1 : e < ((0 : Nat) : Rat) + - apx (nn0 (a.f N)) (nn0_nn _) N := hN N (Nat.le_refl _)
      have := (apx_spec (nn0_nn (a.f N)) N).1
      have z : ((0 : Nat) : Rat) = 0 := rfl
      grind
    · refine Quotient.sound (s := sqd) fun e he => ?_
      obtain ⟨B, B0, M, hM⟩ := bound a
      have cp : 0 < 2 * B + 5 := by grind
      obtain ⟨d, d0, ed⟩ := part cp he
      obtain ⟨K, hK⟩ := arch d0
      refine ⟨max N0 (max M K), fun n hn => ?_⟩
      obtain ⟨a0, a1, a2⟩ := apx_spec (nn0_nn (a.f n)) n
      have dl := dn_le (show K ≤ n by omega)
      have dp := dn_pos n
      have d1 : dn n ≤ 1 := by
        have := dn_le (Nat.zero_le n)
        have z : dn 0 = 1 := by decide +kernel
        grind
      have ap := hN0 n (by omega)
      have aB := (hM n (by omega)).2
      have en : nn0 (a.f n) = a.f n := by
        unfold nn0
        rw [if_neg (by grind)]
      show apx (nn0 (a.f n)) (nn0_nn _) n * apx (nn0 (a.f n)) (nn0_nn _) n - a.f n < e ∧ a.f n - apx (nn0 (a.f n)) (nn0_nn _) n * apx (nn0 (a.f n)) (nn0_nn _) n < e
      generalize apx (nn0 (a.f n)) (nn0_nn _) n = r at *
      rw [en] at a1 a2
      generalize dn n = k at *
      generalize a.f n = q at *
      have rq : r ≤ B + 1 := by
        refine sq_le a0 (by grind) ?_
        have := Rat.mul_nonneg (Rat.le_of_lt B0) (Rat.le_of_lt B0)
        grind
      refine ⟨by grind, ?_⟩
      have t1 := Rat.mul_nonneg (Rat.le_of_lt dp) (show 0 ≤ B + 1 - r by grind)
      have t2 := Rat.mul_nonneg (Rat.le_of_lt dp) (show 0 ≤ 1 - k by grind)
      have t3 := Rat.mul_pos cp (show 0 < d - k by grind)
      grind
noncomputable def rsq (x : Real) : Real := open Classical in if h : 0 ≤ x then Classical.choose (rsq_ex h) else 0
theorem rsq_nn (x : Real) : 0 ≤ rsq x := by
  unfold rsq
  split
  · rename_i h
    exact (Classical.choose_spec (rsq_ex h)).1
  · grind
theorem rsq_sq {x : Real} (h : 0 ≤ x) : rsq x * rsq x = x := by
  unfold rsq
  rw [dif_pos h]
  exact (Classical.choose_spec (rsq_ex h)).2
/-! ### one by a real number above 0 -/
def mx (e q : Rat) : Rat := if q < e then e else q
theorem mx_ge (e q : Rat) : e ≤ mx e q := by
  unfold mx
  split
  · exact Rat.le_refl
  · rename_i h
    exact Rat.not_lt.mp h
theorem mx_sub {e p q d : Rat} (hd : 0 < d) (h : p - q < d) : mx e p - mx e q < d := by
  unfold mx
  split <;> (split <;> grind)
def invS (a : Sq) (e : Rat) (e0 : 0 < e) : Sq := ⟨fun n => (mx e (a.f n))⁻¹, fun g hg => by
  have hd : 0 < g * (e * e) := Rat.mul_pos hg (Rat.mul_pos e0 e0)
  obtain ⟨N, hN⟩ := a.c _ hd
  refine ⟨N, fun m n hm hn => ?_⟩
  have h1 := mx_sub (e := e) hd (hN n m hn hm)
  have m1 := mx_ge e (a.f m)
  have m2 := mx_ge e (a.f n)
  show (mx e (a.f m))⁻¹ - (mx e (a.f n))⁻¹ < g
  generalize mx e (a.f m) = p at *
  generalize mx e (a.f n) = q at *
  have p1 := Rat.mul_inv_cancel p (by grind)
  have q1 := Rat.mul_inv_cancel q (by grind)
  generalize p⁻¹ = u at *
  generalize q⁻¹ = v at *
  rcases rat_lt_or_le (u - v) g with z | z
  · exact z
  · exfalso
    have pq : 0 < p * q := Rat.mul_pos (by grind) (by grind)
    have k1 := Rat.mul_nonneg (show 0 ≤ u - v - g by grind) (Rat.le_of_lt pq)
    have k2 : e * e ≤ p * q := by
      have a1 := Rat.mul_nonneg (show 0 ≤ p - e by grind) (show 0 ≤ q by grind)
      have a2 := Rat.mul_nonneg (show 0 ≤ q - e by grind) (show 0 ≤ e by grind)
      grind
    have k3 := Rat.mul_nonneg (Rat.le_of_lt hg) (show 0 ≤ p * q - e * e by grind)
    have e1 : (u - v) * (p * q) = q - p := by
      have : (u - v) * (p * q) = (p * u) * q - (q * v) * p := by grind
      rw [this, p1, q1]; grind
    grind⟩
theorem inv_ex {x : Real} (h : 0 < x) : ∃ y : Real, x * y = 1 := by
  revert h
  refine Quotient.inductionOn x fun a h => ?_
  have hp : PosS a := by
    have : Real.Pos (Real.mk a - 0) := h
    have e : Real.mk a - 0 = Real.mk a := by grind
    rw [e] at this
    exact this
  obtain ⟨e, e0, N, hN⟩ := hp
  refine ⟨Real.mk (invS a e e0), Quotient.sound (s := sqd) fun g hg => ⟨N, fun n hn => ?_⟩⟩
  have an := hN n hn
  have em : mx e (a.f n) = a.f n := by
    unfold mx
    rw [if_neg (by grind)]
  show a.f n * (mx e (a.f n))⁻¹ - ((1 : Nat) : Rat) < g ∧ ((1 : Nat) : Rat) - a.f n * (mx e (a.f n))⁻¹ < g
  rw [em, Rat.mul_inv_cancel _ (by grind)]
  have o1 : ((1 : Nat) : Rat) = 1 := rfl
  rw [o1]
  exact ⟨by grind, by grind⟩
end Rl

/-! any place of the plane, its parts real numbers: on the thing, or on a face's spoke -/
namespace Rs
open Lb Ld Rl
/-- a place lies on a spoke of a face -/
def spX (x y : Real) : Fc → Prop
  | .side a b => 0 < (x - o a.1) * o (outw a b).1 + (y - o a.2) * o (outw a b).2 ∧ 0 ≤ (x - o a.1) * (o b.1 - o a.1) + (y - o a.2) * (o b.2 - o a.2) ∧
      (x - o a.1) * (o b.1 - o a.1) + (y - o a.2) * (o b.2 - o a.2) ≤ (o b.1 - o a.1) * (o b.1 - o a.1) + (o b.2 - o a.2) * (o b.2 - o a.2)
  | .round c r f l => o r * o r < (x - o c.1) * (x - o c.1) + (y - o c.2) * (y - o c.2) ∧ coneR f l (x - o c.1) (y - o c.2)
/-- how far out of a face a place lies -/
noncomputable def fdX (x y : Real) : Fc → Real
  | .side a b => ((x - o a.1) * o (outw a b).1 + (y - o a.2) * o (outw a b).2) * Real.of (1 / ((lenq (outw a b) : Int) : Rat))
  | .round c r _ _ => rsq ((x - o c.1) * (x - o c.1) + (y - o c.2) * (y - o c.2)) - o r
structure NstX (T : Th) (x y d : Real) : Prop where
  nn : 0 ≤ d
  lb : ∀ u v, InS T u v → d * d ≤ (x - u) * (x - u) + (y - v) * (y - v)
  at_ : ∃ u v, InS T u v ∧ (x - u) * (x - u) + (y - v) * (y - v) = d * d
theorem inv_of {i : Int} (h : i ≠ 0) : o i * Real.of (1 / (i : Rat)) = 1 := by
  rw [o_cast, ← Real.of_mul, Rat.mul_comm, Rat.div_mul_cancel (castne h), Real.of_one]
theorem face_nstX {T : Th} (hT : GoodTh T) {x y : Real} {f : Fc} (hf : f ∈ facesL T) (hs : spX x y f) : NstX T x y (fdX x y f) ∧ 0 < fdX x y f := by
  have fg := faces_good hT f hf
  cases f with
  | side a b =>
    obtain ⟨ne, ba, bb, wh⟩ := fg
    have dk : DirOk 12 (outw a b) := outw_ok ne ba bb wh
    obtain ⟨m0, mm⟩ := len_real dk
    have l0 : (lenq (outw a b) : Int) ≠ 0 := fun z => by
      rw [show o (lenq (outw a b)) = o 0 by rw [z], o_0] at m0
      grind
    have iv := inv_of l0
    obtain ⟨h0, bs0, bs1⟩ := hs
    have ed : fdX x y (.side a b) = ((x - o a.1) * o (outw a b).1 + (y - o a.2) * o (outw a b).2) * Real.of (1 / ((lenq (outw a b) : Int) : Rat)) := rfl
    have ev1 : fdX x y (.side a b) * o (lenq (outw a b)) = (x - o a.1) * o (outw a b).1 + (y - o a.2) * o (outw a b).2 := by
      rw [ed]
      generalize Real.of (1 / ((lenq (outw a b) : Int) : Rat)) = i at *
      grind
    have supA : ∀ u v, InS T u v → (u - o a.1) * o (outw a b).1 + (v - o a.2) * o (outw a b).2 ≤ 0 := fun u v hx => sup_side hT hf hx
    have footA : ∀ s : Real, 0 ≤ s → s ≤ 1 → InS T (o a.1 + s * (o b.1 - o a.1)) (o a.2 + s * (o b.2 - o a.2)) := fun s s0 s1 => foot_side hT hf s0 s1
    obtain ⟨G, g0, g1, g2⟩ := out_rel ne
    have Lp : 0 < far b a := by
      have := far_nonneg b a
      have : far b a ≠ 0 := fun z => ne (far_zero z).symm
      omega
    have eL : o (far b a) = (o b.1 - o a.1) * (o b.1 - o a.1) + (o b.2 - o a.2) * (o b.2 - o a.2) := by
      rw [far_eq, o_add, o_mul, o_mul, o_sub, o_sub]
    have L0 := o_pos Lp
    have iL := inv_of (show far b a ≠ 0 by omega)
    have i0 : 0 ≤ Real.of (1 / ((far b a : Int) : Rat)) := of_nn (by
      rw [Rat.div_def, Rat.one_mul]
      exact Rat.le_of_lt (Rat.inv_pos.mpr (Rat.intCast_pos.mpr Lp)))
    clear ed iv dk wh
    generalize fdX x y (.side a b) = d at *
    generalize Real.of (1 / ((far b a : Int) : Rat)) = iL' at *
    generalize o (far b a) = L at *
    have vp : 0 < d := by
      rcases Real.tri' d 0 with z | z | z
      · have := Real.mul_pos (show 0 < -d by grind) m0
        grind
      · rw [z] at ev1; grind
      · exact z
    refine ⟨⟨by grind, fun u v hx => ?_, ?_⟩, vp⟩
    · have su := supA u v hx
      refine cauchy_sq (h := (x - o a.1) * o (outw a b).1 + (y - o a.2) * o (outw a b).2) (by grind) ?_ m0 mm ev1 (by grind)
      grind
    · have s0 := mul_nn' bs0 i0
      have s1 : ((x - o a.1) * (o b.1 - o a.1) + (y - o a.2) * (o b.2 - o a.2)) * iL' ≤ 1 := by
        have := mul_nn' (show 0 ≤ L - ((x - o a.1) * (o b.1 - o a.1) + (y - o a.2) * (o b.2 - o a.2)) by rw [eL]; grind) i0
        grind
      have et : ((x - o a.1) * (o b.1 - o a.1) + (y - o a.2) * (o b.2 - o a.2)) * iL' * L = (x - o a.1) * (o b.1 - o a.1) + (y - o a.2) * (o b.2 - o a.2) := by
        generalize (x - o a.1) * (o b.1 - o a.1) + (y - o a.2) * (o b.2 - o a.2) = t at *
        rw [show t * iL' * L = t * (L * iL') by grind, iL]
        grind
      have ft := footA _ s0 s1
      refine ⟨_, _, ft, ?_⟩
      generalize ((x - o a.1) * (o b.1 - o a.1) + (y - o a.2) * (o b.2 - o a.2)) * iL' = σ at *
      refine eq_of_mul (Real.mul_pos m0 m0) ?_
      have ev2 : d * d * (o (lenq (outw a b)) * o (lenq (outw a b))) = ((x - o a.1) * o (outw a b).1 + (y - o a.2) * o (outw a b).2) * ((x - o a.1) * o (outw a b).1 + (y - o a.2) * o (outw a b).2) := by rw [← ev1]; grind
      rw [ev2, mm]
      rw [eL] at et
      clear ev2 ev1 supA footA iL i0 s0 s1 eL bs0 bs1 h0 vp mm ft
      have d2 : o b.2 = o a.2 + G * o (outw a b).1 := by grind
      have d1 : o b.1 = o a.1 - G * o (outw a b).2 := by grind
      rw [d1, d2] at et ⊢
      clear g1 g2 d1 d2
      generalize o (outw a b).1 = n1 at *
      generalize o (outw a b).2 = n2 at *
      have z : (x - o a.1 + σ * G * n2) * n2 - (y - o a.2 - σ * G * n1) * n1 = 0 := by
        refine eq_of_mul g0 ?_
        grind
      have e1 : x - (o a.1 + σ * (o a.1 - G * n2 - o a.1)) = x - o a.1 + σ * G * n2 := by grind
      have e2 : y - (o a.2 + σ * (o a.2 + G * n1 - o a.2)) = y - o a.2 - σ * G * n1 := by grind
      rw [e1, e2]
      have e3 : (x - o a.1) * n1 + (y - o a.2) * n2 = (x - o a.1 + σ * G * n2) * n1 + (y - o a.2 - σ * G * n1) * n2 := by grind
      rw [e3]
      generalize x - o a.1 + σ * G * n2 = U at *
      generalize y - o a.2 - σ * G * n1 = V at *
      have e4 : (U * U + V * V) * (n1 * n1 + n2 * n2) = (U * n1 + V * n2) * (U * n1 + V * n2) + (U * n2 - V * n1) * (U * n2 - V * n1) := by grind
      rw [e4, z]
      grind
  | round c r f l =>
    obtain ⟨_, _, bc, r0, rs⟩ := fg
    obtain ⟨h1, hc⟩ := hs
    have r0' := o_nn r0
    have N0 : 0 ≤ (x - o c.1) * (x - o c.1) + (y - o c.2) * (y - o c.2) := by
      have := Real.sq_nn (o r)
      grind
    have n0 := rsq_nn ((x - o c.1) * (x - o c.1) + (y - o c.2) * (y - o c.2))
    have nn := rsq_sq N0
    have lt : o r < rsq ((x - o c.1) * (x - o c.1) + (y - o c.2) * (y - o c.2)) := lt_of_sq n0 r0' (by rw [nn]; exact h1)
    have ed : fdX x y (.round c r f l) = rsq ((x - o c.1) * (x - o c.1) + (y - o c.2) * (y - o c.2)) - o r := rfl
    rw [ed]
    have np : 0 < rsq ((x - o c.1) * (x - o c.1) + (y - o c.2) * (y - o c.2)) := by grind
    obtain ⟨iv, hiv⟩ : ∃ iv : Real, rsq ((x - o c.1) * (x - o c.1) + (y - o c.2) * (y - o c.2)) * iv = 1 := inv_ex np
    refine ⟨⟨by grind, fun u v hx => ?_, ?_⟩, by grind⟩
    · have su := sup_round hT hf (by grind) nn hc hx
      refine cauchy_sq (u := x - o c.1) (v := y - o c.2) (h := (rsq ((x - o c.1) * (x - o c.1) + (y - o c.2) * (y - o c.2)) - o r) * rsq ((x - o c.1) * (x - o c.1) + (y - o c.2) * (y - o c.2))) (mul_nn' (by grind) n0) ?_ np nn rfl (by grind)
      generalize rsq ((x - o c.1) * (x - o c.1) + (y - o c.2) * (y - o c.2)) = n at *
      grind
    · have ft := fun u v ex ey => foot_round hT hf (x := u) (y := v) np nn hc ex ey
      generalize rsq ((x - o c.1) * (x - o c.1) + (y - o c.2) * (y - o c.2)) = n at *
      refine ⟨o c.1 + o r * (x - o c.1) * iv, o c.2 + o r * (y - o c.2) * iv, ft _ _ (by grind) (by grind), ?_⟩
      have e1 : x - (o c.1 + o r * (x - o c.1) * iv) = (x - o c.1) * (1 - o r * iv) := by grind
      have e2 : y - (o c.2 + o r * (y - o c.2) * iv) = (y - o c.2) * (1 - o r * iv) := by grind
      rw [e1, e2]
      have e3 : (x - o c.1) * (1 - o r * iv) * ((x - o c.1) * (1 - o r * iv)) + (y - o c.2) * (1 - o r * iv) * ((y - o c.2) * (1 - o r * iv)) = (n * n) * ((1 - o r * iv) * (1 - o r * iv)) := by rw [nn]; grind
      rw [e3]
      have e4 : n * (1 - o r * iv) = n - o r := by grind
      rw [← e4]
      grind
end Rs

namespace Rs
open Lb Ld Rl
theorem nn_div {g a : Real} (hg : 0 < g) (h : 0 ≤ g * a) : 0 ≤ a := by
  refine le_of_mul hg ?_
  grind
theorem pos_sq {x y : Real} (h : ¬ (x = 0 ∧ y = 0)) : 0 < x * x + y * y := by
  have s1 := Real.sq_nn x
  have s2 := Real.sq_nn y
  rcases Real.tri' (x * x + y * y) 0 with z | z | z
  · grind
  · exfalso
    apply h
    have z1 : x * x = 0 := by grind
    have z2 : y * y = 0 := by grind
    exact ⟨by rcases Real.mul_zero' z1 with w | w <;> exact w, by rcases Real.mul_zero' z2 with w | w <;> exact w⟩
  · exact z
/-- the plane about a bow, its centre taken off -/
theorem bow_cover {c p q : P2} {a b d e R r x y : Real} (w : Bw c p q a b d e R r) :
    (x * x + y * y ≤ R ∧ (d - a) * (y - b) - (e - b) * (x - a) ≤ 0) ∨
    (R < x * x + y * y ∧ 0 ≤ a * y - b * x ∧ 0 ≤ x * e - y * d) ∨
    (¬ (x = d ∧ y = e) ∧ 0 ≤ d * (y - e) - e * (x - d) ∧ 0 ≤ (x - d) * (d - a) - (y - e) * (b - e)) ∨
    (0 < (x - d) * (b - e) + (y - e) * (d - a) ∧ 0 ≤ (x - d) * (a - d) + (y - e) * (b - e) ∧ (x - d) * (a - d) + (y - e) * (b - e) ≤ (a - d) * (a - d) + (b - e) * (b - e)) ∨
    (¬ (x = a ∧ y = b) ∧ 0 ≤ (b - e) * (y - b) - (d - a) * (x - a) ∧ 0 ≤ (x - a) * b - (y - b) * a) := by
  have hp := w.hp
  have hq := w.hq
  have tn := w.tn
  have ne := w.ne
  obtain ⟨h, hh⟩ : ∃ h, h = (x - d) * (b - e) + (y - e) * (d - a) := ⟨_, rfl⟩
  obtain ⟨t, ht⟩ : ∃ t, t = (x - d) * (a - d) + (y - e) * (b - e) := ⟨_, rfl⟩
  obtain ⟨L, hL⟩ : ∃ L, L = (a - d) * (a - d) + (b - e) * (b - e) := ⟨_, rfl⟩
  obtain ⟨al, hal⟩ : ∃ al, al = a * y - b * x := ⟨_, rfl⟩
  obtain ⟨be, hbe⟩ : ∃ be, be = x * e - y * d := ⟨_, rfl⟩
  have eB : L * be = t * (a * e - b * d) - h * (R - (a * d + b * e)) := by
    rw [hL, hbe, ht, hh, ← hq]; grind
  have eA : L * al = -((t - L) * (a * e - b * d)) - h * (R - (a * d + b * e)) := by
    rw [hL, hal, ht, hh, ← hp]; grind
  have Lp : 0 < L := by
    rw [hL]
    refine pos_sq fun z => ?_
    have e1 : a = d := by grind
    have e2 : b = e := by grind
    rw [e1, e2] at ne
    grind
  have c1 : (d - a) * (y - b) - (e - b) * (x - a) = h := by rw [hh]; grind
  have c2 : d * (y - e) - e * (x - d) = -be := by rw [hbe]; grind
  have c3 : (x - d) * (d - a) - (y - e) * (b - e) = -t := by rw [ht]; grind
  have c4 : (b - e) * (y - b) - (d - a) * (x - a) = t - L := by rw [ht, hL]; grind
  have c5 : (x - a) * b - (y - b) * a = -al := by rw [hal]; grind
  rw [c1, c2, c3, c4, c5, ← hal, ← hbe, ← hh, ← ht, ← hL]
  rcases Real.tri' h 0 with h0 | h0 | h0
  all_goals first
    | (-- beyond the chord
       have hp0 : 0 < h := h0
       rcases Real.tri' t 0 with t0 | t0 | t0
       · have m1 := mul_nn' (show 0 ≤ -t by grind) tn
         have m2 := mul_nn' (show 0 ≤ h by grind) (show 0 ≤ R - (a * d + b * e) by grind)
         have b0 : be ≤ 0 := by
           refine le_of_mul Lp ?_
           grind
         exact .inr (.inr (.inl ⟨fun z => by rw [z.1, z.2] at ht; grind, by grind, by grind⟩))
       · exact .inr (.inr (.inr (.inl ⟨hp0, by grind, by grind⟩)))
       · rcases Real.tri' t L with l0 | l0 | l0
         · exact .inr (.inr (.inr (.inl ⟨hp0, by grind, by grind⟩)))
         · exact .inr (.inr (.inr (.inl ⟨hp0, by grind, by grind⟩)))
         · have m1 := mul_nn' (show 0 ≤ t - L by grind) tn
           have m2 := mul_nn' (show 0 ≤ h by grind) (show 0 ≤ R - (a * d + b * e) by grind)
           have a0 : al ≤ 0 := by
             refine le_of_mul Lp ?_
             grind
           exact .inr (.inr (.inr (.inr ⟨fun z => by rw [z.1, z.2] at ht; grind, by grind, by grind⟩))))
    | (have hn0 : 0 ≤ -h := by grind
       have m2 := mul_nn' hn0 (show 0 ≤ R - (a * d + b * e) by grind)
       rcases Real.tri' be 0 with b0 | b0 | b0
       · have k : t * (a * e - b * d) < 0 := by
           have := Real.mul_pos (show 0 < -be by grind) Lp
           grind
         have t0 : t ≤ 0 := by
           rcases nn_or t with z | z
           · have := mul_nn' z tn
             grind
           · exact z
         exact .inr (.inr (.inl ⟨fun z => by rw [z.1, z.2] at hbe; grind, by grind, by grind⟩))
       all_goals
         rcases Real.tri' al 0 with a0 | a0 | a0
         · have k : (L - t) * (a * e - b * d) < 0 := by
             have := Real.mul_pos (show 0 < -al by grind) Lp
             grind
           have t0 : L ≤ t := by
             rcases nn_or (L - t) with z | z
             · have := mul_nn' z tn
               grind
             · grind
           exact .inr (.inr (.inr (.inr ⟨fun z => by rw [z.1, z.2] at hal; grind, by grind, by grind⟩)))
         all_goals
           rcases Real.tri' (x * x + y * y) R with r0 | r0 | r0
           · exact .inl ⟨by grind, by grind⟩
           · exact .inl ⟨by grind, by grind⟩
           · exact .inr (.inl ⟨r0, by grind, by grind⟩))
theorem coverX {T : Th} (hT : GoodTh T) (x y : Real) : InS T x y ∨ ∃ f ∈ facesL T, spX x y f := by
  cases T with
  | spot p =>
    by_cases h : x - o p.1 = 0 ∧ y - o p.2 = 0
    · left
      exact ⟨by have := h.1; grind, by have := h.2; grind⟩
    · right
      refine ⟨.round p 0 (1, 0) (1, 0), by simp [facesL], ?_, .inl rfl⟩
      have := pos_sq h
      rw [o_0]
      grind
  | cord p q =>
    have hne := hT.2.2.1
    obtain ⟨G, g0, g1, g2⟩ := out_rel hne
    obtain ⟨G', g0', g1', g2'⟩ := out_rel (Ne.symm hne)
    have Lp : 0 < (o q.1 - o p.1) * (o q.1 - o p.1) + (o q.2 - o p.2) * (o q.2 - o p.2) := by
      have : 0 < far q p := by
        have := far_nonneg q p
        have : far q p ≠ 0 := fun z => hne (far_zero z).symm
        omega
      have e := o_pos this
      rw [far_eq, o_add, o_mul, o_mul, o_sub, o_sub] at e
      exact e
    obtain ⟨u, hu⟩ : ∃ u, u = o q.1 - o p.1 := ⟨_, rfl⟩
    obtain ⟨v, hv⟩ : ∃ v, v = o q.2 - o p.2 := ⟨_, rfl⟩
    obtain ⟨X, hX⟩ : ∃ X, X = x - o p.1 := ⟨_, rfl⟩
    obtain ⟨Y, hY⟩ : ∃ Y, Y = y - o p.2 := ⟨_, rfl⟩
    have eq1 : x - o q.1 = X - u := by grind
    have eq2 : y - o q.2 = Y - v := by grind
    have r1 : v = G * o (outw p q).1 := by rw [hv, g1]
    have r2 : -u = G * o (outw p q).2 := by rw [← g2, hu]; grind
    have r3 : -v = G' * o (outw q p).1 := by rw [← g1', hv]; grind
    have r4 : u = G' * o (outw q p).2 := by rw [← g2', hu]
    rw [← hu, ← hv] at Lp
    have fs1 : Fc.side p q ∈ facesL (.cord p q) := by simp [facesL]
    have fs2 : Fc.round q 0 (outw p q) (outw q p) ∈ facesL (.cord p q) := by simp [facesL]
    have fs3 : Fc.side q p ∈ facesL (.cord p q) := by simp [facesL]
    have fs4 : Fc.round p 0 (outw q p) (outw p q) ∈ facesL (.cord p q) := by simp [facesL]
    -- one end
    have at_p : X * u + Y * v ≤ 0 → ¬ (X = 0 ∧ Y = 0) → spX x y (.round p 0 (outw q p) (outw p q)) := fun t0 nz => by
      refine ⟨?_, .inr ⟨?_, ?_⟩⟩
      · rw [o_0, ← hX, ← hY]
        have := pos_sq nz
        grind
      · rw [← hX, ← hY]
        refine nn_div g0' ?_
        have e : G' * (o (outw q p).1 * Y - o (outw q p).2 * X) = (G' * o (outw q p).1) * Y - (G' * o (outw q p).2) * X := by grind
        rw [e, ← r3, ← r4]; grind
      · rw [← hX, ← hY]
        refine nn_div g0 ?_
        have e : G * (X * o (outw p q).2 - Y * o (outw p q).1) = X * (G * o (outw p q).2) - Y * (G * o (outw p q).1) := by grind
        rw [e, ← r1, ← r2]; grind
    have at_q : u * u + v * v ≤ X * u + Y * v → ¬ (X - u = 0 ∧ Y - v = 0) → spX x y (.round q 0 (outw p q) (outw q p)) := fun t0 nz => by
      refine ⟨?_, .inr ⟨?_, ?_⟩⟩
      · rw [o_0, eq1, eq2]
        have := pos_sq nz
        grind
      · rw [eq1, eq2]
        refine nn_div g0 ?_
        have e : G * (o (outw p q).1 * (Y - v) - o (outw p q).2 * (X - u)) = (G * o (outw p q).1) * (Y - v) - (G * o (outw p q).2) * (X - u) := by grind
        rw [e, ← r1, ← r2]; grind
      · rw [eq1, eq2]
        refine nn_div g0' ?_
        have e : G' * ((X - u) * o (outw q p).2 - (Y - v) * o (outw q p).1) = (X - u) * (G' * o (outw q p).2) - (Y - v) * (G' * o (outw q p).1) := by grind
        rw [e, ← r3, ← r4]; grind
    rcases Real.tri' (X * u + Y * v) 0 with t0 | t0 | t0
    · exact .inr ⟨_, fs4, at_p (by grind) fun z => by rw [z.1, z.2] at t0; grind⟩
    · by_cases z : X = 0 ∧ Y = 0
      · exact .inl ⟨0, by grind, by grind, by have := z.1; grind, by have := z.2; grind⟩
      · exact .inr ⟨_, fs4, at_p (by grind) z⟩
    · rcases Real.tri' (X * u + Y * v) (u * u + v * v) with l0 | l0 | l0
      · -- between
        rcases Real.tri' (X * v - Y * u) 0 with c0 | c0 | c0
        · refine .inr ⟨_, fs3, ?_, ?_, ?_⟩
          · rw [eq1, eq2]
            have e : G' * ((X - u) * o (outw q p).1 + (Y - v) * o (outw q p).2) = (X - u) * (G' * o (outw q p).1) + (Y - v) * (G' * o (outw q p).2) := by grind
            rw [← r3, ← r4] at e
            rcases Real.tri' 0 ((X - u) * o (outw q p).1 + (Y - v) * o (outw q p).2) with w | w | w
            · exact w
            · rw [← w] at e; grind
            · have := Real.mul_pos g0' (show 0 < -((X - u) * o (outw q p).1 + (Y - v) * o (outw q p).2) by grind)
              grind
          · rw [eq1, eq2, show o p.1 - o q.1 = -u by rw [hu]; grind, show o p.2 - o q.2 = -v by rw [hv]; grind]; grind
          · rw [eq1, eq2, show o p.1 - o q.1 = -u by rw [hu]; grind, show o p.2 - o q.2 = -v by rw [hv]; grind]; grind
        · left
          obtain ⟨iv, hiv⟩ := inv_ex Lp
          obtain ⟨s, hs⟩ : ∃ s, s = (X * u + Y * v) * iv := ⟨_, rfl⟩
          have es : s * (u * u + v * v) = X * u + Y * v := by
            rw [hs, show (X * u + Y * v) * iv * (u * u + v * v) = (X * u + Y * v) * ((u * u + v * v) * iv) by grind, hiv]; grind
          have s0 : 0 ≤ s := nn_div Lp (by rw [show (u * u + v * v) * s = s * (u * u + v * v) by grind, es]; grind)
          have s1 : s ≤ 1 := le_of_mul Lp (by rw [es]; grind)
          refine ⟨s, s0, s1, ?_, ?_⟩
          · rw [← hu]
            have : X = s * u := by
              refine eq_of_mul Lp ?_
              have : s * u * (u * u + v * v) = (s * (u * u + v * v)) * u := by grind
              rw [this, es]
              grind
            grind
          · rw [← hv]
            have : Y = s * v := by
              refine eq_of_mul Lp ?_
              have : s * v * (u * u + v * v) = (s * (u * u + v * v)) * v := by grind
              rw [this, es]
              grind
            grind
        · refine .inr ⟨_, fs1, ?_, ?_, ?_⟩
          · rw [← hX, ← hY]
            have e : G * (X * o (outw p q).1 + Y * o (outw p q).2) = X * (G * o (outw p q).1) + Y * (G * o (outw p q).2) := by grind
            rw [← r1, ← r2] at e
            rcases Real.tri' 0 (X * o (outw p q).1 + Y * o (outw p q).2) with w | w | w
            · exact w
            · rw [← w] at e; grind
            · have := Real.mul_pos g0 (show 0 < -(X * o (outw p q).1 + Y * o (outw p q).2) by grind)
              grind
          · rw [← hX, ← hY, ← hu, ← hv]; grind
          · rw [← hX, ← hY, ← hu, ← hv]; grind
      · by_cases z : X - u = 0 ∧ Y - v = 0
        · exact .inl ⟨1, by grind, by grind, by have := z.1; grind, by have := z.2; grind⟩
        · exact .inr ⟨_, fs2, at_q (by grind) z⟩
      · exact .inr ⟨_, fs2, at_q (by grind) fun z => by
          have e1 : X = u := by grind
          have e2 : Y = v := by grind
          rw [e1, e2] at l0; grind⟩
  | bow k p q =>
    have hb := hT.2.2.2
    obtain ⟨a, b, d, e, R, ρ, w⟩ := bw_of hb
    obtain ⟨np, nq⟩ := hb.np
    obtain ⟨g, g0, g1, g2⟩ := low_rel (dif_ne np)
    obtain ⟨g', g0', g1', g2'⟩ := low_rel (dif_ne nq)
    obtain ⟨G, G0, G1, G2⟩ := out_rel (Ne.symm hb.ne)
    have d1 : o (dif p k).1 = a := by unfold dif; rw [o_sub]; exact w.ea
    have d2 : o (dif p k).2 = b := by unfold dif; rw [o_sub]; exact w.eb
    have d3 : o (dif q k).1 = d := by unfold dif; rw [o_sub]; exact w.ed
    have d4 : o (dif q k).2 = e := by unfold dif; rw [o_sub]; exact w.ee
    rw [d1] at g1
    rw [d2] at g2
    rw [d3] at g1'
    rw [d4] at g2'
    have G1' : b - e = G * o (outw q p).1 := by rw [← G1, ← w.eb, ← w.ee]; grind
    have G2' : d - a = G * o (outw q p).2 := by rw [← G2, ← w.ea, ← w.ed]; grind
    have xq : x - o q.1 = x - o k.1 - d := by rw [← w.ed]; grind
    have yq : y - o q.2 = y - o k.2 - e := by rw [← w.ee]; grind
    have xp : x - o p.1 = x - o k.1 - a := by rw [← w.ea]; grind
    have yp : y - o p.2 = y - o k.2 - b := by rw [← w.eb]; grind
    have pq1 : o p.1 - o q.1 = a - d := by rw [← w.ea, ← w.ed]; grind
    have pq2 : o p.2 - o q.2 = b - e := by rw [← w.eb, ← w.ee]; grind
    rcases bow_cover (x := x - o k.1) (y := y - o k.2) w with h | ⟨h1, h2, h3⟩ | ⟨h1, h2, h3⟩ | ⟨h1, h2, h3⟩ | ⟨h1, h2, h3⟩
    · exact .inl ((bow_in w).mpr h)
    · refine .inr ⟨_, show Fc.round k (isq (far k p).toNat) (low (dif p k)) (low (dif q k)) ∈ facesL (.bow k p q) by simp [facesL], ?_, .inr ⟨?_, ?_⟩⟩
      · rw [w.er, w.rr]; exact h1
      · refine nn_div g0 ?_
        have : g * (o (low (dif p k)).1 * (y - o k.2) - o (low (dif p k)).2 * (x - o k.1)) = (g * o (low (dif p k)).1) * (y - o k.2) - (g * o (low (dif p k)).2) * (x - o k.1) := by grind
        rw [this, ← g1, ← g2]; exact h2
      · refine nn_div g0' ?_
        have : g' * ((x - o k.1) * o (low (dif q k)).2 - (y - o k.2) * o (low (dif q k)).1) = (x - o k.1) * (g' * o (low (dif q k)).2) - (y - o k.2) * (g' * o (low (dif q k)).1) := by grind
        rw [this, ← g1', ← g2']; exact h3
    · refine .inr ⟨_, show Fc.round q 0 (low (dif q k)) (outw q p) ∈ facesL (.bow k p q) by simp [facesL], ?_, .inr ⟨?_, ?_⟩⟩
      · rw [o_0, xq, yq]
        have := pos_sq (x := x - o k.1 - d) (y := y - o k.2 - e) (fun z => h1 ⟨by have := z.1; grind, by have := z.2; grind⟩)
        grind
      · rw [xq, yq]
        refine nn_div g0' ?_
        have : g' * (o (low (dif q k)).1 * (y - o k.2 - e) - o (low (dif q k)).2 * (x - o k.1 - d)) = (g' * o (low (dif q k)).1) * (y - o k.2 - e) - (g' * o (low (dif q k)).2) * (x - o k.1 - d) := by grind
        rw [this, ← g1', ← g2']; exact h2
      · rw [xq, yq]
        refine nn_div G0 ?_
        have : G * ((x - o k.1 - d) * o (outw q p).2 - (y - o k.2 - e) * o (outw q p).1) = (x - o k.1 - d) * (G * o (outw q p).2) - (y - o k.2 - e) * (G * o (outw q p).1) := by grind
        rw [this, ← G1', ← G2']; exact h3
    · refine .inr ⟨_, show Fc.side q p ∈ facesL (.bow k p q) by simp [facesL], ?_, ?_, ?_⟩
      · rw [xq, yq]
        have : G * ((x - o k.1 - d) * o (outw q p).1 + (y - o k.2 - e) * o (outw q p).2) = (x - o k.1 - d) * (G * o (outw q p).1) + (y - o k.2 - e) * (G * o (outw q p).2) := by grind
        rw [← G1', ← G2'] at this
        rcases Real.tri' 0 ((x - o k.1 - d) * o (outw q p).1 + (y - o k.2 - e) * o (outw q p).2) with z | z | z
        · exact z
        · rw [← z] at this; grind
        · have := Real.mul_pos G0 (show 0 < -((x - o k.1 - d) * o (outw q p).1 + (y - o k.2 - e) * o (outw q p).2) by grind)
          grind
      · rw [xq, yq, pq1, pq2]; exact h2
      · rw [xq, yq, pq1, pq2]; exact h3
    · refine .inr ⟨_, show Fc.round p 0 (outw q p) (low (dif p k)) ∈ facesL (.bow k p q) by simp [facesL], ?_, .inr ⟨?_, ?_⟩⟩
      · rw [o_0, xp, yp]
        have := pos_sq (x := x - o k.1 - a) (y := y - o k.2 - b) (fun z => h1 ⟨by have := z.1; grind, by have := z.2; grind⟩)
        grind
      · rw [xp, yp]
        refine nn_div G0 ?_
        have : G * (o (outw q p).1 * (y - o k.2 - b) - o (outw q p).2 * (x - o k.1 - a)) = (G * o (outw q p).1) * (y - o k.2 - b) - (G * o (outw q p).2) * (x - o k.1 - a) := by grind
        rw [this, ← G1', ← G2']; exact h2
      · rw [xp, yp]
        refine nn_div g0 ?_
        have : g * ((x - o k.1 - a) * o (low (dif p k)).2 - (y - o k.2 - b) * o (low (dif p k)).1) = (x - o k.1 - a) * (g * o (low (dif p k)).2) - (y - o k.2 - b) * (g * o (low (dif p k)).1) := by grind
        rw [this, ← g1, ← g2]; exact h3
end Rs

/-! things are convex; each direction goes out of a round; where a way crosses a ring -/
namespace Rs
open Lb Ld Rl
theorem convex {T : Th} (hT : GoodTh T) {x y z w : Real} (h1 : InS T x y) (h2 : InS T z w) {t : Real} (t0 : 0 ≤ t) (t1 : t ≤ 1) : InS T (x + t * (z - x)) (y + t * (w - y)) := by
  cases T with
  | spot p =>
    obtain ⟨rfl, rfl⟩ := h1
    obtain ⟨rfl, rfl⟩ := h2
    exact ⟨by grind, by grind⟩
  | cord p q =>
    obtain ⟨s, s0, s1, rfl, rfl⟩ := h1
    obtain ⟨s', s0', s1', rfl, rfl⟩ := h2
    have a := mul_nn' t0 s0'
    have b := mul_nn' (show 0 ≤ 1 - t by grind) s0
    have c := mul_nn' t0 (show 0 ≤ 1 - s' by grind)
    have d := mul_nn' (show 0 ≤ 1 - t by grind) (show 0 ≤ 1 - s by grind)
    exact ⟨s + t * (s' - s), by grind, by grind, by grind, by grind⟩
  | bow c p q =>
    obtain ⟨a1, a2⟩ := h1
    obtain ⟨b1, b2⟩ := h2
    have u0 : 0 ≤ 1 - t := by grind
    have tu := mul_nn' t0 u0
    have s1 := Real.sq_nn (z - x)
    have s2 := Real.sq_nn (w - y)
    have m := mul_nn' tu (show 0 ≤ (z - x) * (z - x) + (w - y) * (w - y) by grind)
    have m1 := mul_nn' u0 (show 0 ≤ o (far c p) - ((x - o c.1) * (x - o c.1) + (y - o c.2) * (y - o c.2)) by grind)
    have m2 := mul_nn' t0 (show 0 ≤ o (far c p) - ((z - o c.1) * (z - o c.1) + (w - o c.2) * (w - o c.2)) by grind)
    have m3 := mul_nn' u0 (show 0 ≤ -((o q.1 - o p.1) * (y - o p.2) - (o q.2 - o p.2) * (x - o p.1)) by grind)
    have m4 := mul_nn' t0 (show 0 ≤ -((o q.1 - o p.1) * (w - o p.2) - (o q.2 - o p.2) * (z - o p.1)) by grind)
    refine ⟨?_, ?_⟩
    · have e : (x + t * (z - x) - o c.1) * (x + t * (z - x) - o c.1) + (y + t * (w - y) - o c.2) * (y + t * (w - y) - o c.2) = (1 - t) * ((x - o c.1) * (x - o c.1) + (y - o c.2) * (y - o c.2)) + t * ((z - o c.1) * (z - o c.1) + (w - o c.2) * (w - o c.2)) - t * (1 - t) * ((z - x) * (z - x) + (w - y) * (w - y)) := by grind
      rw [e]
      grind
    · grind
theorem quad_root {α β γ : Real} (hα : 0 < α) (hγ : γ ≤ 0) (h1 : 0 ≤ α + 2 * β + γ) : ∃ t, 0 ≤ t ∧ t ≤ 1 ∧ α * t * t + 2 * β * t + γ = 0 := by
  have m := mul_nn' (show 0 ≤ α by grind) (show 0 ≤ -γ by grind)
  have b2 := Real.sq_nn β
  have D0 : 0 ≤ β * β - α * γ := by grind
  have s0 := rsq_nn (β * β - α * γ)
  have ss := rsq_sq D0
  generalize rsq (β * β - α * γ) = s at *
  obtain ⟨iv, hiv⟩ := inv_ex hα
  have sb : β ≤ s := by
    rcases nn_or β with z | z
    · exact ge_of_sq s0 z (by rw [ss]; grind)
    · grind
  have sa : s ≤ α + β := by
    refine ge_of_sq (by grind) s0 ?_
    have := mul_nn' (show 0 ≤ α by grind) h1
    rw [ss]
    grind
  have iv0 : 0 ≤ iv := nn_div hα (by rw [hiv]; grind)
  refine ⟨(s - β) * iv, mul_nn' (by grind) iv0, ?_, ?_⟩
  · refine le_of_mul hα ?_
    have : (s - β) * iv * α = (s - β) * (α * iv) := by grind
    rw [this, hiv]
    grind
  · have e : α * ((s - β) * iv) * ((s - β) * iv) = (s - β) * (s - β) * iv * (α * iv) := by grind
    rw [e, hiv]
    have e2 : (s - β) * (s - β) * iv * 1 + 2 * β * ((s - β) * iv) + γ = iv * (s * s - β * β) + γ := by grind
    rw [e2, ss]
    have e3 : iv * (β * β - α * γ - β * β) = -(α * iv) * γ := by grind
    rw [e3, hiv]
    grind
/-- each direction is an outward one of some round -/
theorem dir_cover {T : Th} (hT : GoodTh T) (u v : Real) : ∃ c r f l, Fc.round c r f l ∈ facesL T ∧ coneR f l u v := by
  cases T with
  | spot p => exact ⟨p, 0, (1, 0), (1, 0), by simp [facesL], .inl rfl⟩
  | cord p q =>
    have hne := hT.2.2.1
    obtain ⟨G, g0, g1, g2⟩ := out_rel hne
    obtain ⟨G', g0', g1', g2'⟩ := out_rel (Ne.symm hne)
    have e1 : G * (o (outw p q).1 * v - o (outw p q).2 * u) = (o q.2 - o p.2) * v + (o q.1 - o p.1) * u := by
      have : G * (o (outw p q).1 * v - o (outw p q).2 * u) = (G * o (outw p q).1) * v - (G * o (outw p q).2) * u := by grind
      rw [this, ← g1, ← g2]; grind
    have e2 : G' * (u * o (outw q p).2 - v * o (outw q p).1) = (o q.2 - o p.2) * v + (o q.1 - o p.1) * u := by
      have : G' * (u * o (outw q p).2 - v * o (outw q p).1) = u * (G' * o (outw q p).2) - v * (G' * o (outw q p).1) := by grind
      rw [this, ← g1', ← g2']; grind
    have e3 : G' * (o (outw q p).1 * v - o (outw q p).2 * u) = -((o q.2 - o p.2) * v + (o q.1 - o p.1) * u) := by
      have : G' * (o (outw q p).1 * v - o (outw q p).2 * u) = (G' * o (outw q p).1) * v - (G' * o (outw q p).2) * u := by grind
      rw [this, ← g1', ← g2']; grind
    have e4 : G * (u * o (outw p q).2 - v * o (outw p q).1) = -((o q.2 - o p.2) * v + (o q.1 - o p.1) * u) := by
      have : G * (u * o (outw p q).2 - v * o (outw p q).1) = u * (G * o (outw p q).2) - v * (G * o (outw p q).1) := by grind
      rw [this, ← g1, ← g2]; grind
    rcases nn_or ((o q.2 - o p.2) * v + (o q.1 - o p.1) * u) with z | z
    · exact ⟨q, 0, _, _, show Fc.round q 0 (outw p q) (outw q p) ∈ facesL (.cord p q) by simp [facesL], .inr ⟨nn_div g0 (by rw [e1]; exact z), nn_div g0' (by rw [e2]; exact z)⟩⟩
    · exact ⟨p, 0, _, _, show Fc.round p 0 (outw q p) (outw p q) ∈ facesL (.cord p q) by simp [facesL], .inr ⟨nn_div g0' (by rw [e3]; grind), nn_div g0 (by rw [e4]; grind)⟩⟩
  | bow k p q =>
    have hb := hT.2.2.2
    obtain ⟨a, b, d, e, R, ρ, w⟩ := bw_of hb
    obtain ⟨np, nq⟩ := hb.np
    obtain ⟨g, g0, g1, g2⟩ := low_rel (dif_ne np)
    obtain ⟨g', g0', g1', g2'⟩ := low_rel (dif_ne nq)
    obtain ⟨G, G0, G1, G2⟩ := out_rel (Ne.symm hb.ne)
    have d1 : o (dif p k).1 = a := by unfold dif; rw [o_sub]; exact w.ea
    have d2 : o (dif p k).2 = b := by unfold dif; rw [o_sub]; exact w.eb
    have d3 : o (dif q k).1 = d := by unfold dif; rw [o_sub]; exact w.ed
    have d4 : o (dif q k).2 = e := by unfold dif; rw [o_sub]; exact w.ee
    rw [d1] at g1
    rw [d2] at g2
    rw [d3] at g1'
    rw [d4] at g2'
    have G1' : b - e = G * o (outw q p).1 := by rw [← G1, ← w.eb, ← w.ee]; grind
    have G2' : d - a = G * o (outw q p).2 := by rw [← G2, ← w.ea, ← w.ed]; grind
    have hp := w.hp
    have hq := w.hq
    have tn := w.tn
    have ne := w.ne
    obtain ⟨h, hh⟩ : ∃ h, h = u * (b - e) + v * (d - a) := ⟨_, rfl⟩
    obtain ⟨t, ht⟩ : ∃ t, t = u * (a - d) + v * (b - e) := ⟨_, rfl⟩
    obtain ⟨L, hL⟩ : ∃ L, L = (a - d) * (a - d) + (b - e) * (b - e) := ⟨_, rfl⟩
    obtain ⟨al, hal⟩ : ∃ al, al = a * v - b * u := ⟨_, rfl⟩
    obtain ⟨be, hbe⟩ : ∃ be, be = u * e - v * d := ⟨_, rfl⟩
    have eB : L * be = t * (a * e - b * d) - h * (R - (a * d + b * e)) := by rw [hL, hbe, ht, hh, ← hq]; grind
    have eA : L * al = -(t * (a * e - b * d)) - h * (R - (a * d + b * e)) := by rw [hL, hal, ht, hh, ← hp]; grind
    have Lp : 0 < L := by
      rw [hL]
      refine pos_sq fun z => ?_
      have e1 : a = d := by grind
      have e2 : b = e := by grind
      rw [e1, e2] at ne
      grind
    have arc : 0 ≤ al → 0 ≤ be → coneR (low (dif p k)) (low (dif q k)) u v := fun z1 z2 => by
      refine .inr ⟨nn_div g0 ?_, nn_div g0' ?_⟩
      · have : g * (o (low (dif p k)).1 * v - o (low (dif p k)).2 * u) = (g * o (low (dif p k)).1) * v - (g * o (low (dif p k)).2) * u := by grind
        rw [this, ← g1, ← g2, ← hal]; exact z1
      · have : g' * (u * o (low (dif q k)).2 - v * o (low (dif q k)).1) = u * (g' * o (low (dif q k)).2) - v * (g' * o (low (dif q k)).1) := by grind
        rw [this, ← g1', ← g2', ← hbe]; exact z2
    have atq : be ≤ 0 → t ≤ 0 → coneR (low (dif q k)) (outw q p) u v := fun z1 z2 => by
      refine .inr ⟨nn_div g0' ?_, nn_div G0 ?_⟩
      · have : g' * (o (low (dif q k)).1 * v - o (low (dif q k)).2 * u) = (g' * o (low (dif q k)).1) * v - (g' * o (low (dif q k)).2) * u := by grind
        rw [this, ← g1', ← g2']; grind
      · have : G * (u * o (outw q p).2 - v * o (outw q p).1) = u * (G * o (outw q p).2) - v * (G * o (outw q p).1) := by grind
        rw [this, ← G1', ← G2']; grind
    have atp : al ≤ 0 → 0 ≤ t → coneR (outw q p) (low (dif p k)) u v := fun z1 z2 => by
      refine .inr ⟨nn_div G0 ?_, nn_div g0 ?_⟩
      · have : G * (o (outw q p).1 * v - o (outw q p).2 * u) = (G * o (outw q p).1) * v - (G * o (outw q p).2) * u := by grind
        rw [this, ← G1', ← G2']; grind
      · have : g * (u * o (low (dif p k)).2 - v * o (low (dif p k)).1) = u * (g * o (low (dif p k)).2) - v * (g * o (low (dif p k)).1) := by grind
        rw [this, ← g1, ← g2]; grind
    have fa : Fc.round k (isq (far k p).toNat) (low (dif p k)) (low (dif q k)) ∈ facesL (.bow k p q) := by simp [facesL]
    have fq : Fc.round q 0 (low (dif q k)) (outw q p) ∈ facesL (.bow k p q) := by simp [facesL]
    have fp : Fc.round p 0 (outw q p) (low (dif p k)) ∈ facesL (.bow k p q) := by simp [facesL]
    have Lb : be < 0 → L * be < 0 := fun z => by
      have := Real.mul_pos Lp (show 0 < -be by grind)
      grind
    have La : al < 0 → L * al < 0 := fun z => by
      have := Real.mul_pos Lp (show 0 < -al by grind)
      grind
    rcases Real.tri' be 0 with b0 | b0 | b0
    · rcases nn_or t with t0 | t0
      · have m := mul_nn' t0 tn
        have l := Lb b0
        have a0 : al ≤ 0 := by
          refine le_of_mul Lp ?_
          grind
        exact ⟨_, _, _, _, fp, atp a0 t0⟩
      · exact ⟨_, _, _, _, fq, atq (by grind) t0⟩
    all_goals
      rcases Real.tri' al 0 with a0 | a0 | a0
      · rcases nn_or t with t0 | t0
        · exact ⟨_, _, _, _, fp, atp (by grind) t0⟩
        · exfalso
          have m := mul_nn' (show 0 ≤ -t by grind) tn
          have l := La a0
          have l2 := mul_nn' (show 0 ≤ L by grind) (show 0 ≤ be by grind)
          grind
      all_goals exact ⟨_, _, _, _, fa, arc (by grind) (by grind)⟩
end Rs

/-! the least of what corners and middles tell is the least of all -/
namespace Rs
open Lb Ld Rl
/-- the direction from a point to the nearest place by a face -/
noncomputable def dU (c : P2) : Fc → Real
  | .side a b => - o (outw a b).1
  | .round k _ _ _ => o k.1 - o c.1
noncomputable def dV (c : P2) : Fc → Real
  | .side a b => - o (outw a b).2
  | .round k _ _ _ => o k.2 - o c.2
theorem foot_dir {B : Th} (hB : GoodTh B) {c : P2} {g : Fc} (hg : g ∈ facesL B) (hs : spX (o c.1) (o c.2) g) : ∃ z w κ, InS B z w ∧ 0 < κ ∧ z - o c.1 = κ * dU c g ∧ w - o c.2 = κ * dV c g ∧ (o c.1 - z) * (o c.1 - z) + (o c.2 - w) * (o c.2 - w) = fdX (o c.1) (o c.2) g * fdX (o c.1) (o c.2) g := by
  obtain ⟨nst, dp⟩ := face_nstX hB hg hs
  obtain ⟨z, w, hz, e⟩ := nst.at_
  have fg := faces_good hB g hg
  cases g with
  | side a b =>
    obtain ⟨ne, ba, bb, wh⟩ := fg
    have dk : DirOk 12 (outw a b) := outw_ok ne ba bb wh
    obtain ⟨m0, mm⟩ := len_real dk
    have l0 : (lenq (outw a b) : Int) ≠ 0 := fun z => by
      rw [show o (lenq (outw a b)) = o 0 by rw [z], o_0] at m0
      grind
    have iv := inv_of l0
    obtain ⟨h0, _, _⟩ := hs
    have ed : fdX (o c.1) (o c.2) (.side a b) = ((o c.1 - o a.1) * o (outw a b).1 + (o c.2 - o a.2) * o (outw a b).2) * Real.of (1 / ((lenq (outw a b) : Int) : Rat)) := rfl
    have ev1 : fdX (o c.1) (o c.2) (.side a b) * o (lenq (outw a b)) = (o c.1 - o a.1) * o (outw a b).1 + (o c.2 - o a.2) * o (outw a b).2 := by
      rw [ed]
      generalize Real.of (1 / ((lenq (outw a b) : Int) : Rat)) = i at *
      grind
    have su := sup_side hB hg hz
    obtain ⟨i2, hi2⟩ := inv_ex m0
    have du : dU c (.side a b) = - o (outw a b).1 := rfl
    have dv : dV c (.side a b) = - o (outw a b).2 := rfl
    rw [du, dv]
    clear ed iv dk wh du dv
    generalize fdX (o c.1) (o c.2) (.side a b) = d at *
    generalize o (outw a b).1 = n1 at *
    generalize o (outw a b).2 = n2 at *
    generalize o (lenq (outw a b)) = m at *
    -- the way to the foot goes along the direction: equality in Cauchy
    have hle : d * m ≤ (o c.1 - z) * n1 + (o c.2 - w) * n2 := by rw [ev1]; grind
    have id : ((o c.1 - z) * n1 + (o c.2 - w) * n2) * ((o c.1 - z) * n1 + (o c.2 - w) * n2) + ((o c.1 - z) * n2 - (o c.2 - w) * n1) * ((o c.1 - z) * n2 - (o c.2 - w) * n1) = (d * m) * (d * m) := by
      have : (d * m) * (d * m) = (d * d) * (m * m) := by grind
      rw [this, ← e, mm]; grind
    have dm0 := mul_nn' (show 0 ≤ d by grind) (show 0 ≤ m by grind)
    have q1 := mul_nn' (show 0 ≤ ((o c.1 - z) * n1 + (o c.2 - w) * n2) - d * m by grind) (show 0 ≤ ((o c.1 - z) * n1 + (o c.2 - w) * n2) + d * m by grind)
    have q2 := Real.sq_nn ((o c.1 - z) * n2 - (o c.2 - w) * n1)
    have q3 : ((o c.1 - z) * n2 - (o c.2 - w) * n1) * ((o c.1 - z) * n2 - (o c.2 - w) * n1) = 0 := by grind
    have q4 : (o c.1 - z) * n2 - (o c.2 - w) * n1 = 0 := by rcases Real.mul_zero' q3 with h | h <;> exact h
    have q5 : (o c.1 - z) * n1 + (o c.2 - w) * n2 = d * m := by
      refine Real.sq_inj (by grind) dm0 ?_
      rw [q4] at id
      grind
    have mp := Real.mul_pos m0 m0
    refine ⟨z, w, d * i2, hz, ?_, ?_, ?_, e⟩
    · have i20 : 0 < i2 := by
        rcases Real.tri' i2 0 with h | h | h
        · have := Real.mul_pos m0 (show 0 < -i2 by grind)
          grind
        · rw [h] at hi2; grind
        · exact h
      exact Real.mul_pos dp i20
    · refine eq_of_mul mp ?_
      have e1 : d * i2 * -n1 * (m * m) = -((d * m) * n1) * (m * i2) := by grind
      rw [e1, hi2, ← q5, mm]
      have : n2 * ((o c.1 - z) * n2 - (o c.2 - w) * n1) = 0 := by rw [q4]; grind
      grind
    · refine eq_of_mul mp ?_
      have e1 : d * i2 * -n2 * (m * m) = -((d * m) * n2) * (m * i2) := by grind
      rw [e1, hi2, ← q5, mm]
      have : n1 * ((o c.1 - z) * n2 - (o c.2 - w) * n1) = 0 := by rw [q4]; grind
      grind
  | round k r f l =>
    obtain ⟨_, _, bc, r0, rs⟩ := fg
    obtain ⟨h1, hc⟩ := hs
    have r0' := o_nn r0
    have N0 : 0 ≤ (o c.1 - o k.1) * (o c.1 - o k.1) + (o c.2 - o k.2) * (o c.2 - o k.2) := by
      have := Real.sq_nn (o r)
      grind
    have n0 := rsq_nn ((o c.1 - o k.1) * (o c.1 - o k.1) + (o c.2 - o k.2) * (o c.2 - o k.2))
    have nn := rsq_sq N0
    have ed : fdX (o c.1) (o c.2) (.round k r f l) = rsq ((o c.1 - o k.1) * (o c.1 - o k.1) + (o c.2 - o k.2) * (o c.2 - o k.2)) - o r := rfl
    rw [ed] at dp e ⊢
    have np : 0 < rsq ((o c.1 - o k.1) * (o c.1 - o k.1) + (o c.2 - o k.2) * (o c.2 - o k.2)) := by grind
    obtain ⟨iv, hiv⟩ := inv_ex np
    have ft := fun u v ex ey => foot_round hB hg (x := u) (y := v) np nn hc ex ey
    have du : dU c (.round k r f l) = o k.1 - o c.1 := rfl
    have dv : dV c (.round k r f l) = o k.2 - o c.2 := rfl
    rw [du, dv]
    generalize rsq ((o c.1 - o k.1) * (o c.1 - o k.1) + (o c.2 - o k.2) * (o c.2 - o k.2)) = n at *
    refine ⟨o k.1 + o r * (o c.1 - o k.1) * iv, o k.2 + o r * (o c.2 - o k.2) * iv, 1 - o r * iv, ft _ _ (by grind) (by grind), ?_, by grind, by grind, ?_⟩
    · have : n * (1 - o r * iv) = n - o r := by grind
      rcases Real.tri' 0 (1 - o r * iv) with h | h | h
      · exact h
      · rw [← h] at this; grind
      · have := Real.mul_pos np (show 0 < -(1 - o r * iv) by grind)
        grind
    · have e1 : o c.1 - (o k.1 + o r * (o c.1 - o k.1) * iv) = (o c.1 - o k.1) * (1 - o r * iv) := by grind
      have e2 : o c.2 - (o k.2 + o r * (o c.2 - o k.2) * iv) = (o c.2 - o k.2) * (1 - o r * iv) := by grind
      rw [e1, e2]
      have e3 : (o c.1 - o k.1) * (1 - o r * iv) * ((o c.1 - o k.1) * (1 - o r * iv)) + (o c.2 - o k.2) * (1 - o r * iv) * ((o c.2 - o k.2) * (1 - o r * iv)) = (n * n) * ((1 - o r * iv) * (1 - o r * iv)) := by rw [nn]; grind
      rw [e3]
      have e4 : n * (1 - o r * iv) = n - o r := by grind
      rw [← e4]
      grind
def cornerLB (A B : Th) (m : Real) : Prop := ∀ v f l, Fc.round v 0 f l ∈ facesL A → ∀ z w, InS B z w → m * m ≤ (z - o v.1) * (z - o v.1) + (w - o v.2) * (w - o v.2)
def midLB (A B : Th) (m : Real) : Prop := ∀ c r f l, 0 < r → Fc.round c r f l ∈ facesL A → ∀ g ∈ facesL B, spX (o c.1) (o c.2) g → coneR f l (dU c g) (dV c g) → m ≤ fdX (o c.1) (o c.2) g - o r
theorem side_ends {A : Th} {a b : P2} (h : Fc.side a b ∈ facesL A) : (∃ f l, Fc.round a 0 f l ∈ facesL A) ∧ ∃ f l, Fc.round b 0 f l ∈ facesL A := by
  cases A with
  | spot p => simp [facesL] at h
  | cord p q =>
    simp only [facesL, List.mem_cons, List.not_mem_nil, or_false, Fc.side.injEq, reduceCtorEq, false_or] at h
    rcases h with ⟨rfl, rfl⟩ | ⟨rfl, rfl⟩
    · exact ⟨⟨outw b a, outw a b, by simp [facesL]⟩, ⟨outw a b, outw b a, by simp [facesL]⟩⟩
    · exact ⟨⟨outw b a, outw a b, by simp [facesL]⟩, ⟨outw a b, outw b a, by simp [facesL]⟩⟩
  | bow k p q =>
    simp only [facesL, List.mem_cons, List.not_mem_nil, or_false, Fc.side.injEq, reduceCtorEq, false_or] at h
    obtain ⟨rfl, rfl⟩ := h
    exact ⟨⟨low (dif a k), outw a b, by simp [facesL]⟩, ⟨outw a b, low (dif b k), by simp [facesL]⟩⟩
/-- where a straight way leaves a cone -/
theorem leave {a0 b0 a1 b1 : Real} (h1 : 0 ≤ a0) (h2 : 0 ≤ b0) (h : a1 < 0 ∨ b1 < 0) : ∃ t, 0 ≤ t ∧ t ≤ 1 ∧ ((a0 + t * (a1 - a0) = 0 ∧ 0 ≤ b0 + t * (b1 - b0)) ∨ (b0 + t * (b1 - b0) = 0 ∧ 0 ≤ a0 + t * (a1 - a0))) := by
  have one : ∀ {x y : Real}, 0 ≤ x → y < 0 → ∃ t, 0 ≤ t ∧ t ≤ 1 ∧ x + t * (y - x) = 0 := fun {x y} hx hy => by
    have dp : 0 < x - y := by grind
    obtain ⟨iv, hiv⟩ := inv_ex dp
    have iv0 : 0 ≤ iv := nn_div dp (by rw [hiv]; grind)
    refine ⟨x * iv, mul_nn' hx iv0, ?_, ?_⟩
    · refine le_of_mul dp ?_
      have : x * iv * (x - y) = x * ((x - y) * iv) := by grind
      rw [this, hiv]; grind
    · have : x * iv * (y - x) = -(x * ((x - y) * iv)) := by grind
      rw [this, hiv]; grind
  have swap : ∀ {x y z w : Real}, 0 ≤ x → 0 ≤ z → y < 0 → ∃ t, 0 ≤ t ∧ t ≤ 1 ∧ ((x + t * (y - x) = 0 ∧ 0 ≤ z + t * (w - z)) ∨ (z + t * (w - z) = 0 ∧ 0 ≤ x + t * (y - x))) := fun {x y z w} hx hz hy => by
    obtain ⟨t, t0, t1, ht⟩ := one hx hy
    rcases nn_or (z + t * (w - z)) with g | g
    · exact ⟨t, t0, t1, .inl ⟨ht, g⟩⟩
    · by_cases g0 : z + t * (w - z) = 0
      · exact ⟨t, t0, t1, .inl ⟨ht, by grind⟩⟩
      · have g' : z + t * (w - z) < 0 := by
          rcases Real.tri' (z + t * (w - z)) 0 with k | k | k
          · exact k
          · exact absurd k g0
          · grind
        obtain ⟨s, s0, s1, hs⟩ := one hz g'
        have st := mul_nn' s0 t0
        have st1 := mul_nn' (show 0 ≤ 1 - s by grind) t0
        refine ⟨s * t, st, by grind, .inr ⟨by grind, ?_⟩⟩
        have k := mul_nn' (show 0 ≤ 1 - s by grind) hx
        have e : x + s * t * (y - x) = (1 - s) * x + s * (x + t * (y - x)) := by grind
        rw [e, ht]
        grind
  rcases h with h | h
  · exact swap h1 h2 h
  · obtain ⟨t, t0, t1, hh⟩ := swap (w := a1) h2 h1 h
    exact ⟨t, t0, t1, hh.symm⟩
end Rs

namespace Rs
open Lb Ld Rl
/-- a place out of an arc -/
theorem arc_lb {A B : Th} {k p q : P2} (eA : A = .bow k p q) (hA : GoodTh A) (hB : GoodTh B) (dis : ∀ x y, InS A x y → ¬ InS B x y) {m : Real} (cA : cornerLB A B m) (mA : midLB A B m) {z w : Real} (hz : InS B z w) {r : Int} {f l : P2} (hf : Fc.round k r f l ∈ facesL A) (r0 : 0 < r) (hs : spX z w (.round k r f l)) : m * m ≤ fdX z w (.round k r f l) * fdX z w (.round k r f l) ∨ m ≤ fdX z w (.round k r f l) := by
  subst eA
  have hb := hA.2.2.2
  obtain ⟨a, b, d, e, R, ρ, W⟩ := bw_of hb
  obtain ⟨np, nq⟩ := hb.np
  -- it is the arc
  have isarc : r = isq (far k p).toNat ∧ f = low (dif p k) ∧ l = low (dif q k) := by
    simp only [facesL, List.mem_cons, List.not_mem_nil, or_false, Fc.round.injEq, reduceCtorEq, false_or] at hf
    rcases hf with ⟨_, h1, h2, h3⟩ | ⟨_, h, _, _⟩ | ⟨_, h, _, _⟩
    · exact ⟨h1, h2, h3⟩
    · omega
    · omega
  obtain ⟨e1, e2, e3⟩ := isarc
  obtain ⟨n1, n2, n3⟩ := bow_ne hb
  obtain ⟨g, g0, g1, g2⟩ := low_rel (dif_ne np)
  obtain ⟨g', g0', g1', g2'⟩ := low_rel (dif_ne nq)
  have d1 : o (dif p k).1 = a := by unfold dif; rw [o_sub]; exact W.ea
  have d2 : o (dif p k).2 = b := by unfold dif; rw [o_sub]; exact W.eb
  have d3 : o (dif q k).1 = d := by unfold dif; rw [o_sub]; exact W.ed
  have d4 : o (dif q k).2 = e := by unfold dif; rw [o_sub]; exact W.ee
  rw [d1] at g1
  rw [d2] at g2
  rw [d3] at g1'
  rw [d4] at g2'
  have er : o r = ρ := by rw [e1]; exact W.er
  have hp := W.hp
  have hq := W.hq
  have rr := W.rr
  have ρ0 := W.r0
  have R0 := W.R0
  have tn := W.tn
  have ne := W.ne
  have cone_iff : ∀ u v : Real, coneR f l u v ↔ 0 ≤ a * v - b * u ∧ 0 ≤ u * e - v * d := fun u v => by
    have k1 : g * (o (low (dif p k)).1 * v - o (low (dif p k)).2 * u) = a * v - b * u := by
      have : g * (o (low (dif p k)).1 * v - o (low (dif p k)).2 * u) = (g * o (low (dif p k)).1) * v - (g * o (low (dif p k)).2) * u := by grind
      rw [this, ← g1, ← g2]
    have k2 : g' * (u * o (low (dif q k)).2 - v * o (low (dif q k)).1) = u * e - v * d := by
      have : g' * (u * o (low (dif q k)).2 - v * o (low (dif q k)).1) = u * (g' * o (low (dif q k)).2) - v * (g' * o (low (dif q k)).1) := by grind
      rw [this, ← g1', ← g2']
    rw [e2, e3]
    constructor
    · intro h
      obtain ⟨h1, h2⟩ := coneR_ne h n1
      exact ⟨by rw [← k1]; exact nn_mul g0 h1, by rw [← k2]; exact nn_mul g0' h2⟩
    · rintro ⟨h1, h2⟩
      exact .inr ⟨nn_div g0 (by rw [k1]; exact h1), nn_div g0' (by rw [k2]; exact h2)⟩
  -- any place of the ring in the cone is of the bow
  have ring_in : ∀ X Y : Real, X * X + Y * Y = R → 0 ≤ a * Y - b * X → 0 ≤ X * e - Y * d → InS (.bow k p q) (o k.1 + X) (o k.2 + Y) := fun X Y h1 h2 h3 => by
    refine foot_round (n := ρ) (u := X) (v := Y) hA hf ρ0 (by rw [rr, h1]) ((cone_iff X Y).mpr ⟨h2, h3⟩) ?_ ?_
    · rw [er]; grind
    · rw [er]; grind
  obtain ⟨hs1, hs2⟩ := hs
  rw [er, rr] at hs1
  obtain ⟨α0, β0⟩ := (cone_iff _ _).mp hs2
  have ed : fdX z w (.round k r f l) = rsq ((z - o k.1) * (z - o k.1) + (w - o k.2) * (w - o k.2)) - o r := rfl
  have N0 : 0 ≤ (z - o k.1) * (z - o k.1) + (w - o k.2) * (w - o k.2) := by grind
  have n0 := rsq_nn ((z - o k.1) * (z - o k.1) + (w - o k.2) * (w - o k.2))
  have nn := rsq_sq N0
  rw [ed, er]
  have lt : ρ < rsq ((z - o k.1) * (z - o k.1) + (w - o k.2) * (w - o k.2)) := lt_of_sq n0 (by grind) (by rw [nn, rr]; exact hs1)
  obtain ⟨X, hX⟩ : ∃ X, X = z - o k.1 := ⟨_, rfl⟩
  obtain ⟨Y, hY⟩ : ∃ Y, Y = w - o k.2 := ⟨_, rfl⟩
  have zX : z = o k.1 + X := by grind
  have wY : w = o k.2 + Y := by grind
  rw [← hX, ← hY] at hs1 α0 β0 N0 n0 nn lt ⊢
  generalize rsq (X * X + Y * Y) = n at *
  -- a way within the other thing from outside the ring to a place within the cone meets the bow
  have meets : ∀ X' Y' : Real, InS B (o k.1 + X') (o k.2 + Y') → 0 ≤ a * Y' - b * X' → 0 ≤ X' * e - Y' * d → X' * X' + Y' * Y' ≤ R → False := fun X' Y' hB' h1 h2 h3 => by
    have al : 0 < (X - X') * (X - X') + (Y - Y') * (Y - Y') := by
      refine pos_sq fun q => ?_
      have q1 : X = X' := by have := q.1; grind
      have q2 : Y = Y' := by have := q.2; grind
      rw [q1, q2] at hs1
      grind
    obtain ⟨t, t0, t1, ht⟩ := quad_root (α := (X - X') * (X - X') + (Y - Y') * (Y - Y')) (β := X' * (X - X') + Y' * (Y - Y')) (γ := X' * X' + Y' * Y' - R) al (by grind) (by grind)
    have on : (X' + t * (X - X')) * (X' + t * (X - X')) + (Y' + t * (Y - Y')) * (Y' + t * (Y - Y')) = R := by grind
    have m1 := mul_nn' t0 α0
    have m2 := mul_nn' t0 β0
    have m3 := mul_nn' (show 0 ≤ 1 - t by grind) h1
    have m4 := mul_nn' (show 0 ≤ 1 - t by grind) h2
    have inA := ring_in _ _ on (by grind) (by grind)
    have inB := convex hB hB' hz t0 t1
    refine dis _ _ inA ?_
    have q1 : o k.1 + (X' + t * (X - X')) = o k.1 + X' + t * (z - (o k.1 + X')) := by rw [zX]; grind
    have q2 : o k.2 + (Y' + t * (Y - Y')) = o k.2 + Y' + t * (w - (o k.2 + Y')) := by rw [wY]; grind
    rw [q1, q2]
    exact inB
  rcases coverX hB (o k.1) (o k.2) with inB | ⟨h, hh, hsp⟩
  · exfalso
    refine meets 0 0 ?_ (by grind) (by grind) (by grind)
    have q1 : o k.1 + 0 = o k.1 := by grind
    have q2 : o k.2 + 0 = o k.2 := by grind
    rw [q1, q2]
    exact inB
  · obtain ⟨nst, dp⟩ := face_nstX hB hh hsp
    obtain ⟨z1, w1, κ, in1, κ0, ez, ew, en⟩ := foot_dir hB hh hsp
    have le0 := nst.lb _ _ hz
    have hm := fun hc => mA k r f l r0 hf h hh hsp hc
    have δ0 := nst.nn
    generalize fdX (o k.1) (o k.2) h = δ at *
    rw [er] at hm
    have ln : δ ≤ n := ge_of_sq n0 δ0 (by rw [nn, hX, hY]; grind)
    by_cases hc : coneR f l (dU k h) (dV k h)
    · right
      have := hm hc
      grind
    · left
      obtain ⟨X1, hX1⟩ : ∃ X1, X1 = z1 - o k.1 := ⟨_, rfl⟩
      obtain ⟨Y1, hY1⟩ : ∃ Y1, Y1 = w1 - o k.2 := ⟨_, rfl⟩
      rw [← hX1] at ez
      rw [← hY1] at ew
      have en' : X1 * X1 + Y1 * Y1 = δ * δ := by rw [← en, hX1, hY1]; grind
      have out : a * Y1 - b * X1 < 0 ∨ X1 * e - Y1 * d < 0 := by
        false_or_by_contra
        rename_i q
        apply hc
        refine (cone_iff _ _).mpr ⟨nn_div κ0 ?_, nn_div κ0 ?_⟩
        · have : κ * (a * dV k h - b * dU k h) = a * Y1 - b * X1 := by rw [ez, ew]; grind
          rw [this]
          rcases Real.tri' (a * Y1 - b * X1) 0 with y | y | y
          · exact absurd (.inl y) q
          · grind
          · grind
        · have : κ * (dU k h * e - dV k h * d) = X1 * e - Y1 * d := by rw [ez, ew]; grind
          rw [this]
          rcases Real.tri' (X1 * e - Y1 * d) 0 with y | y | y
          · exact absurd (.inr y) q
          · grind
          · grind
      obtain ⟨t, t0, t1, ht⟩ := leave α0 β0 out
      obtain ⟨X', hX'⟩ : ∃ X', X' = X + t * (X1 - X) := ⟨_, rfl⟩
      obtain ⟨Y', hY'⟩ : ∃ Y', Y' = Y + t * (Y1 - Y) := ⟨_, rfl⟩
      have inB' : InS B (o k.1 + X') (o k.2 + Y') := by
        have := convex hB hz in1 t0 t1
        have q1 : o k.1 + X' = z + t * (z1 - z) := by rw [hX', hX1, hX]; grind
        have q2 : o k.2 + Y' = w + t * (w1 - w) := by rw [hY', hY1, hY]; grind
        rw [q1, q2]
        exact this
      have ea' : a * Y + -(b * X) + t * (a * Y1 + -(b * X1) - (a * Y + -(b * X))) = a * Y' - b * X' := by rw [hX', hY']; grind
      have ht' : (a * Y' - b * X' = 0 ∧ 0 ≤ X' * e - Y' * d) ∨ (X' * e - Y' * d = 0 ∧ 0 ≤ a * Y' - b * X') := by
        have e1 : a * Y - b * X + t * (a * Y1 - b * X1 - (a * Y - b * X)) = a * Y' - b * X' := by rw [hX', hY']; grind
        have e2 : X * e - Y * d + t * (X1 * e - Y1 * d - (X * e - Y * d)) = X' * e - Y' * d := by rw [hX', hY']; grind
        rw [e1, e2] at ht
        exact ht
      have le' : X' * X' + Y' * Y' ≤ n * n := by
        have u0 : 0 ≤ 1 - t := by grind
        have s1 := Real.sq_nn (X1 - X)
        have s2 := Real.sq_nn (Y1 - Y)
        have m0 := mul_nn' (mul_nn' t0 u0) (show 0 ≤ (X1 - X) * (X1 - X) + (Y1 - Y) * (Y1 - Y) by grind)
        have m1 := mul_nn' t0 (show 0 ≤ n * n - δ * δ by have := mul_nn' (show 0 ≤ n - δ by grind) (show 0 ≤ n + δ by grind); grind)
        have e1 : X' * X' + Y' * Y' = (1 - t) * (X * X + Y * Y) + t * (X1 * X1 + Y1 * Y1) - t * (1 - t) * ((X1 - X) * (X1 - X) + (Y1 - Y) * (Y1 - Y)) := by rw [hX', hY']; grind
        rw [e1, en', ← nn]
        grind
      have ab : 0 ≤ a * Y' - b * X' ∧ 0 ≤ X' * e - Y' * d := by
        rcases ht' with ⟨u, v⟩ | ⟨u, v⟩
        · exact ⟨by grind, v⟩
        · exact ⟨v, by grind⟩
      clear hX' hY' ht ez ew hX1 hY1 out en en' hm hc ea' hsp nst in1
      rcases Real.tri' R (X' * X' + Y' * Y') with big | big | big
      rotate_left
      · exact (meets X' Y' inB' ab.1 ab.2 (by grind)).elim
      · exact (meets X' Y' inB' ab.1 ab.2 (by grind)).elim
      clear meets ring_in
      -- a corner is nearer
      have ρn : ρ ≤ n := by grind
      have corner : ∀ A1 A2 : Real, A1 * A1 + A2 * A2 = R → 0 ≤ A1 * X' + A2 * Y' → (A1 * X' + A2 * Y') * (A1 * X' + A2 * Y') = R * (X' * X' + Y' * Y') → m * m ≤ (X' - A1) * (X' - A1) + (Y' - A2) * (Y' - A2) → m * m ≤ (n - ρ) * (n - ρ) := fun A1 A2 hA1 hs hss hm => by
        have P0 : 0 ≤ X' * X' + Y' * Y' := by grind
        have p0 := rsq_nn (X' * X' + Y' * Y')
        have pp := rsq_sq P0
        generalize rsq (X' * X' + Y' * Y') = n' at *
        have es : A1 * X' + A2 * Y' = ρ * n' := by
          refine Real.sq_inj hs (mul_nn' (by grind) p0) ?_
          rw [hss, ← rr, ← pp]; grind
        have l1 : ρ ≤ n' := ge_of_sq p0 (by grind) (by rw [rr, pp]; grind)
        have l2 : n' ≤ n := ge_of_sq n0 p0 (by rw [pp]; exact le')
        have e1 : (X' - A1) * (X' - A1) + (Y' - A2) * (Y' - A2) = (n' - ρ) * (n' - ρ) := by
          have : (X' - A1) * (X' - A1) + (Y' - A2) * (Y' - A2) = (X' * X' + Y' * Y') - 2 * (A1 * X' + A2 * Y') + (A1 * A1 + A2 * A2) := by grind
          rw [this, es, hA1, ← pp, ← rr]; grind
        rw [e1] at hm
        have := mul_nn' (show 0 ≤ n - n' by grind) (show 0 ≤ (n - ρ) + (n' - ρ) by grind)
        grind
      have fq : Fc.round q 0 (low (dif q k)) (outw q p) ∈ facesL (.bow k p q) := by simp [facesL]
      have fp : Fc.round p 0 (outw q p) (low (dif p k)) ∈ facesL (.bow k p q) := by simp [facesL]
      have cp : m * m ≤ (X' - a) * (X' - a) + (Y' - b) * (Y' - b) := by
        have := cA p _ _ fp _ _ inB'
        have q1 : o k.1 + X' - o p.1 = X' - a := by rw [← W.ea]; grind
        have q2 : o k.2 + Y' - o p.2 = Y' - b := by rw [← W.eb]; grind
        rw [q1, q2] at this
        exact this
      have cq : m * m ≤ (X' - d) * (X' - d) + (Y' - e) * (Y' - e) := by
        have := cA q _ _ fq _ _ inB'
        have q1 : o k.1 + X' - o q.1 = X' - d := by rw [← W.ed]; grind
        have q2 : o k.2 + Y' - o q.2 = Y' - e := by rw [← W.ee]; grind
        rw [q1, q2] at this
        exact this
      have toP := fun h1 h2 => corner a b hp h1 h2 cp
      have toQ := fun h1 h2 => corner d e hq h1 h2 cq
      have lag : (a * d + b * e) * (a * d + b * e) + (a * e - b * d) * (a * e - b * d) = R * R := by
        rw [← hp]
        have : (a * a + b * b) * (a * a + b * b) = (a * a + b * b) * (d * d + e * e) := by rw [hp, hq]
        rw [this]; grind
      clear corner cA mA dis inB' hs1 hs2 ed cone_iff cp cq fp fq g1 g2 g1' g2' d1 d2 d3 d4
      have opp : a * e - b * d = 0 → a * d + b * e = -R := fun z => by
        rw [z] at lag
        have q : (a * d + b * e - R) * (a * d + b * e + R) = 0 := by grind
        rcases Real.mul_zero' q with v | v <;> grind
      have sP : (a * X' + b * Y') * (a * X' + b * Y') + (a * Y' - b * X') * (a * Y' - b * X') = R * (X' * X' + Y' * Y') := by rw [← hp]; grind
      have sQ : (d * X' + e * Y') * (d * X' + e * Y') + (X' * e - Y' * d) * (X' * e - Y' * d) = R * (X' * X' + Y' * Y') := by rw [← hq]; grind
      clear lag le' big N0 n0 nn lt hX hY zX wY le0 ln
      rcases ht' with ⟨u, v⟩ | ⟨u, v⟩
      · rcases nn_or (a * X' + b * Y') with k0 | k0
        · exact toP k0 (by rw [← sP, u]; grind)
        · have r1 : R * X' = (a * X' + b * Y') * a := by
            have : b * (a * Y' - b * X') = 0 := by rw [u]; grind
            rw [← hp]; grind
          have r2 : R * Y' = (a * X' + b * Y') * b := by
            have : a * (a * Y' - b * X') = 0 := by rw [u]; grind
            rw [← hp]; grind
          have e1 : R * (X' * e - Y' * d) = (a * X' + b * Y') * (a * e - b * d) := by
            have : R * (X' * e - Y' * d) = (R * X') * e - (R * Y') * d := by grind
            rw [this, r1, r2]; grind
          have e2 : R * (d * X' + e * Y') = (a * X' + b * Y') * (a * d + b * e) := by
            have : R * (d * X' + e * Y') = d * (R * X') + e * (R * Y') := by grind
            rw [this, r1, r2]; grind
          by_cases z0 : a * X' + b * Y' = 0
          · exact toP (by grind) (by rw [← sP, u]; grind)
          · have m1 := mul_nn' (show 0 ≤ R by grind) v
            have m2 := mul_nn' (show 0 ≤ -(a * X' + b * Y') by grind) tn
            have z : (a * X' + b * Y') * (a * e - b * d) = 0 := by grind
            have z1 : a * e - b * d = 0 := (Real.mul_zero' z).resolve_left z0
            have op := opp z1
            rw [op] at e2
            have e3 : d * X' + e * Y' = -(a * X' + b * Y') := eq_of_mul R0 (by grind)
            exact toQ (by rw [e3]; grind) (by rw [e3, ← sP, u]; grind)
      · rcases nn_or (d * X' + e * Y') with k0 | k0
        · exact toQ k0 (by rw [← sQ, u]; grind)
        · have r1 : R * X' = (d * X' + e * Y') * d := by
            have : e * (X' * e - Y' * d) = 0 := by rw [u]; grind
            rw [← hq]; grind
          have r2 : R * Y' = (d * X' + e * Y') * e := by
            have : d * (X' * e - Y' * d) = 0 := by rw [u]; grind
            rw [← hq]; grind
          have e1 : R * (a * Y' - b * X') = (d * X' + e * Y') * (a * e - b * d) := by
            have : R * (a * Y' - b * X') = a * (R * Y') - b * (R * X') := by grind
            rw [this, r1, r2]; grind
          have e2 : R * (a * X' + b * Y') = (d * X' + e * Y') * (a * d + b * e) := by
            have : R * (a * X' + b * Y') = a * (R * X') + b * (R * Y') := by grind
            rw [this, r1, r2]; grind
          by_cases z0 : d * X' + e * Y' = 0
          · exact toQ (by grind) (by rw [← sQ, u]; grind)
          · have m1 := mul_nn' (show 0 ≤ R by grind) v
            have m2 := mul_nn' (show 0 ≤ -(d * X' + e * Y') by grind) tn
            have z : (d * X' + e * Y') * (a * e - b * d) = 0 := by grind
            have z1 : a * e - b * d = 0 := (Real.mul_zero' z).resolve_left z0
            have op := opp z1
            rw [op] at e2
            have e3 : a * X' + b * Y' = -(d * X' + e * Y') := eq_of_mul R0 (by grind)
            exact toP (by rw [e3]; grind) (by rw [e3, ← sQ, u]; grind)
end Rs

namespace Rs
open Lb Ld Rl
theorem ratio {x y : Real} (hx : 0 ≤ x) (hy : y ≤ 0) (h : 0 < x - y) : ∃ t, 0 ≤ t ∧ t ≤ 1 ∧ x + t * (y - x) = 0 := by
  obtain ⟨iv, hiv⟩ := inv_ex h
  have iv0 : 0 ≤ iv := nn_div h (by rw [hiv]; grind)
  refine ⟨x * iv, mul_nn' hx iv0, ?_, ?_⟩
  · refine le_of_mul h ?_
    have : x * iv * (x - y) = x * ((x - y) * iv) := by grind
    rw [this, hiv]; grind
  · have : x * iv * (y - x) = -(x * ((x - y) * iv)) := by grind
    rw [this, hiv]; grind
theorem side_lb {A B : Th} (hA : GoodTh A) (hB : GoodTh B) (dis : ∀ x y, InS A x y → ¬ InS B x y) {m : Real} (cA : cornerLB A B m) (cB : cornerLB B A m) (mB : midLB B A m) {z w : Real} (hz : InS B z w) {a b : P2} (hf : Fc.side a b ∈ facesL A) (hs : spX z w (.side a b)) : m * m ≤ fdX z w (.side a b) * fdX z w (.side a b) ∨ m ≤ fdX z w (.side a b) := by
  obtain ⟨ne, ba, bb, wh⟩ := faces_good hA _ hf
  have dk : DirOk 12 (outw a b) := outw_ok ne ba bb wh
  obtain ⟨m0, mm⟩ := len_real dk
  have l0 : (lenq (outw a b) : Int) ≠ 0 := fun z => by
    rw [show o (lenq (outw a b)) = o 0 by rw [z], o_0] at m0
    grind
  have iv := inv_of l0
  have iv0 : 0 ≤ Real.of (1 / ((lenq (outw a b) : Int) : Rat)) := nn_div m0 (by rw [iv]; grind)
  obtain ⟨G, g0, g1, g2⟩ := out_rel ne
  obtain ⟨⟨fa, la, ea⟩, ⟨fb, lb, eb⟩⟩ := side_ends hf
  obtain ⟨c2, r2, f2, l2, hg, hc⟩ := dir_cover hB (- o (outw a b).1) (- o (outw a b).2)
  obtain ⟨_, _, _, r20, _⟩ := faces_good hB _ hg
  have R2 := o_nn r20
  obtain ⟨h0, bs0, bs1⟩ := hs
  have ed : fdX z w (.side a b) = ((z - o a.1) * o (outw a b).1 + (w - o a.2) * o (outw a b).2) * Real.of (1 / ((lenq (outw a b) : Int) : Rat)) := rfl
  rw [ed]
  have mm2 : o (lenq (outw a b)) * o (lenq (outw a b)) = -o (outw a b).1 * -o (outw a b).1 + -o (outw a b).2 * -o (outw a b).2 := by grind
  have supB := sup_round hB hg (by grind) mm2 hc hz
  have ftB := fun x y ex ey => foot_round hB hg (x := x) (y := y) m0 mm2 hc ex ey
  have corA := cA a fa la ea
  have corB := cA b fb lb eb
  have footA : ∀ s : Real, 0 ≤ s → s ≤ 1 → InS A (o a.1 + s * (o b.1 - o a.1)) (o a.2 + s * (o b.2 - o a.2)) := fun s s0 s1 => foot_side hA hf s0 s1
  have mid : 0 < r2 → 0 < (o c2.1 - o a.1) * o (outw a b).1 + (o c2.2 - o a.2) * o (outw a b).2 → 0 ≤ (o c2.1 - o a.1) * (o b.1 - o a.1) + (o c2.2 - o a.2) * (o b.2 - o a.2) → (o c2.1 - o a.1) * (o b.1 - o a.1) + (o c2.2 - o a.2) * (o b.2 - o a.2) ≤ (o b.1 - o a.1) * (o b.1 - o a.1) + (o b.2 - o a.2) * (o b.2 - o a.2) →
      m ≤ ((o c2.1 - o a.1) * o (outw a b).1 + (o c2.2 - o a.2) * o (outw a b).2) * Real.of (1 / ((lenq (outw a b) : Int) : Rat)) - o r2 := fun h1 h2 h3 h4 => mB c2 r2 f2 l2 h1 hg (.side a b) hf ⟨h2, h3, h4⟩ hc
  have corner2 : r2 = 0 → ∀ x y, InS A x y → m * m ≤ (x - o c2.1) * (x - o c2.1) + (y - o c2.2) * (y - o c2.2) := fun e x y hx => by
    subst e
    exact cB c2 f2 l2 hg x y hx
  have r2pos : r2 ≠ 0 → 0 < r2 := fun h => by omega
  have or2 : r2 = 0 → o r2 = 0 := fun h => by rw [h]; exact o_0
  have d2 : o b.2 = o a.2 + G * o (outw a b).1 := by grind
  have d1 : o b.1 = o a.1 - G * o (outw a b).2 := by grind
  rw [d1, d2] at bs0 bs1 corB footA mid
  clear ed dk wh cA cB mB hc ea eb l0 mm2 g1 g2 d1 d2 hg hf
  generalize Real.of (1 / ((lenq (outw a b) : Int) : Rat)) = i at *
  generalize o (outw a b).1 = n1 at *
  generalize o (outw a b).2 = n2 at *
  generalize o (lenq (outw a b)) = μ at *
  have M0 := Real.mul_pos m0 m0
  have L0 : 0 < G * G * (μ * μ) := Real.mul_pos (Real.mul_pos g0 g0) M0
  -- a place of the line between both ends is of the first thing
  have onA : ∀ X Y : Real, X * n1 + Y * n2 = 0 → 0 ≤ Y * n1 - X * n2 → G * (Y * n1 - X * n2) ≤ G * G * (μ * μ) → InS A (o a.1 + X) (o a.2 + Y) := fun X Y h1 h2 h3 => by
    obtain ⟨j, hj⟩ := inv_ex L0
    have j0 : 0 ≤ j := nn_div L0 (by rw [hj]; grind)
    have t0 := nn_mul g0 h2
    have s0 := mul_nn' t0 j0
    have s1 : G * (Y * n1 - X * n2) * j ≤ 1 := by
      have := mul_nn' (show 0 ≤ G * G * (μ * μ) - G * (Y * n1 - X * n2) by grind) j0
      grind
    have := footA _ s0 s1
    have e1 : X = G * (Y * n1 - X * n2) * j * (o a.1 - G * n2 - o a.1) := by
      refine eq_of_mul L0 ?_
      have q : G * (Y * n1 - X * n2) * j * (o a.1 - G * n2 - o a.1) * (G * G * (μ * μ)) = -(G * G * n2 * (Y * n1 - X * n2)) * (G * G * (μ * μ) * j) := by grind
      rw [q, hj, mm]
      have q2 : n1 * (X * n1 + Y * n2) = 0 := by rw [h1]; grind
      have q3 : X * (n1 * n1 + n2 * n2) = -(n2 * (Y * n1 - X * n2)) := by grind
      have q4 : X * (G * G * (n1 * n1 + n2 * n2)) = G * G * (X * (n1 * n1 + n2 * n2)) := by grind
      rw [q4, q3]; grind
    have e2 : Y = G * (Y * n1 - X * n2) * j * (o a.2 + G * n1 - o a.2) := by
      refine eq_of_mul L0 ?_
      have q : G * (Y * n1 - X * n2) * j * (o a.2 + G * n1 - o a.2) * (G * G * (μ * μ)) = (G * G * n1 * (Y * n1 - X * n2)) * (G * G * (μ * μ) * j) := by grind
      rw [q, hj, mm]
      have q2 : n2 * (X * n1 + Y * n2) = 0 := by rw [h1]; grind
      have q3 : Y * (n1 * n1 + n2 * n2) = n1 * (Y * n1 - X * n2) := by grind
      have q4 : Y * (G * G * (n1 * n1 + n2 * n2)) = G * G * (Y * (n1 * n1 + n2 * n2)) := by grind
      rw [q4, q3]; grind
    have q1 : o a.1 + G * (Y * n1 - X * n2) * j * (o a.1 - G * n2 - o a.1) = o a.1 + X := by rw [← e1]
    have q2 : o a.2 + G * (Y * n1 - X * n2) * j * (o a.2 + G * n1 - o a.2) = o a.2 + Y := by rw [← e2]
    rw [q1, q2] at this
    exact this
  obtain ⟨X, hX⟩ : ∃ X, X = z - o a.1 := ⟨_, rfl⟩
  obtain ⟨Y, hY⟩ : ∃ Y, Y = w - o a.2 := ⟨_, rfl⟩
  have zX : z = o a.1 + X := by grind
  have wY : w = o a.2 + Y := by grind
  rw [← hX, ← hY] at h0 bs0 bs1 ⊢
  have eb : X * (o a.1 - G * n2 - o a.1) + Y * (o a.2 + G * n1 - o a.2) = G * (Y * n1 - X * n2) := by clear bs0 bs1 h0 dis supB ftB corA corB footA mid corner2 onA; grind
  have el : (o a.1 - G * n2 - o a.1) * (o a.1 - G * n2 - o a.1) + (o a.2 + G * n1 - o a.2) * (o a.2 + G * n1 - o a.2) = G * G * (n1 * n1 + n2 * n2) := by clear bs0 bs1 h0 dis supB ftB corA corB footA mid corner2 onA; grind
  rw [eb] at bs0 bs1
  rw [el, ← mm] at bs1
  have b0 : 0 ≤ G * (Y * n1 - X * n2) := bs0
  have b1 : G * (Y * n1 - X * n2) ≤ G * G * (μ * μ) := bs1
  have b0' : 0 ≤ Y * n1 - X * n2 := nn_div g0 b0
  clear bs0 bs1
  -- no place of the other thing lies below the line, above it or beside
  have cross0 : ∀ X' Y' : Real, InS B (o a.1 + X') (o a.2 + Y') → 0 ≤ Y' * n1 - X' * n2 → G * (Y' * n1 - X' * n2) ≤ G * G * (μ * μ) → X' * n1 + Y' * n2 ≤ 0 → False := fun X' Y' hB' k0 k1 k2 => by
    obtain ⟨t, t0, t1, ht⟩ := ratio (x := X * n1 + Y * n2) (y := X' * n1 + Y' * n2) (by grind) k2 (by grind)
    have u0 : 0 ≤ 1 - t := by grind
    have m1 := mul_nn' u0 b0'
    have m2 := mul_nn' t0 k0
    have m3 := mul_nn' u0 (show 0 ≤ G * G * (μ * μ) - G * (Y * n1 - X * n2) by grind)
    have m4 := mul_nn' t0 (show 0 ≤ G * G * (μ * μ) - G * (Y' * n1 - X' * n2) by grind)
    have inA := onA (X + t * (X' - X)) (Y + t * (Y' - Y)) (by grind) (by grind) (by grind)
    have inB := convex hB hz hB' t0 t1
    refine dis _ _ inA ?_
    have q1 : o a.1 + (X + t * (X' - X)) = z + t * (o a.1 + X' - z) := by rw [zX]; grind
    have q2 : o a.2 + (Y + t * (Y' - Y)) = w + t * (o a.2 + Y' - w) := by rw [wY]; grind
    rw [q1, q2]
    exact inB
  -- what a height tells
  have high : ∀ h : Real, 0 ≤ h → h ≤ X * n1 + Y * n2 → h * i * (h * i) ≤ (X * n1 + Y * n2) * i * ((X * n1 + Y * n2) * i) := fun h h1 h2 => by
    have q1 := mul_nn' (show 0 ≤ X * n1 + Y * n2 - h by grind) iv0
    have q2 := mul_nn' (show 0 ≤ X * n1 + Y * n2 + h by grind) iv0
    have := mul_nn' q1 q2
    grind
  have len : ∀ X' Y' : Real, Y' * n1 - X' * n2 = 0 → X' * X' + Y' * Y' = (X' * n1 + Y' * n2) * i * ((X' * n1 + Y' * n2) * i) := fun X' Y' h => by
    refine eq_of_mul M0 ?_
    have q : (X' * n1 + Y' * n2) * i * ((X' * n1 + Y' * n2) * i) * (μ * μ) = (X' * n1 + Y' * n2) * (X' * n1 + Y' * n2) * (μ * i) * (μ * i) := by grind
    rw [q, iv, mm]
    have : (Y' * n1 - X' * n2) * (Y' * n1 - X' * n2) = 0 := by rw [h]; grind
    grind
  -- the other thing's lowest place
  obtain ⟨P, hP⟩ : ∃ P, P = o c2.1 - o a.1 := ⟨_, rfl⟩
  obtain ⟨Q, hQ⟩ : ∃ Q, Q = o c2.2 - o a.2 := ⟨_, rfl⟩
  rw [← hP, ← hQ] at mid
  have cP : o c2.1 = o a.1 + P := by grind
  have cQ : o c2.2 = o a.2 + Q := by grind
  have low0 : InS B (o a.1 + (P - o r2 * n1 * i)) (o a.2 + (Q - o r2 * n2 * i)) := by
    refine ftB _ _ ?_ ?_
    · rw [cP]
      have : (o a.1 + (P - o r2 * n1 * i) - (o a.1 + P)) * μ = -(o r2 * n1 * (μ * i)) := by grind
      rw [this, iv]; grind
    · rw [cQ]
      have : (o a.2 + (Q - o r2 * n2 * i) - (o a.2 + Q)) * μ = -(o r2 * n2 * (μ * i)) := by grind
      rw [this, iv]; grind
  have hlow : (P - o r2 * n1 * i) * n1 + (Q - o r2 * n2 * i) * n2 = P * n1 + Q * n2 - o r2 * μ := by
    have : (P - o r2 * n1 * i) * n1 + (Q - o r2 * n2 * i) * n2 = P * n1 + Q * n2 - o r2 * i * (n1 * n1 + n2 * n2) := by grind
    rw [this, ← mm]
    have : o r2 * i * (μ * μ) = o r2 * μ * (μ * i) := by grind
    rw [this, iv]; grind
  have tlow : (Q - o r2 * n2 * i) * n1 - (P - o r2 * n1 * i) * n2 = Q * n1 - P * n2 := by grind
  have hle : P * n1 + Q * n2 - o r2 * μ ≤ X * n1 + Y * n2 := by
    rw [cP, cQ, zX, wY] at supB
    grind
  -- a way to beyond an end
  have beyond : ∀ X' Y' : Real, InS B (o a.1 + X') (o a.2 + Y') → X' * n1 + Y' * n2 ≤ X * n1 + Y * n2 → (Y' * n1 - X' * n2 = 0 ∨ G * (Y' * n1 - X' * n2) = G * G * (μ * μ)) → m * m ≤ (X * n1 + Y * n2) * i * ((X * n1 + Y * n2) * i) := fun X' Y' hB' k1 k2 => by
    rcases nn_or (X' * n1 + Y' * n2) with p0 | p0
    · rcases k2 with k | k
      · have c := corA _ _ hB'
        have q1 : o a.1 + X' - o a.1 = X' := by grind
        have q2 : o a.2 + Y' - o a.2 = Y' := by grind
        rw [q1, q2, len X' Y' k] at c
        have := high _ p0 k1
        grind
      · have c := corB _ _ hB'
        have q1 : o a.1 + X' - (o a.1 - G * n2) = X' + G * n2 := by grind
        have q2 : o a.2 + Y' - (o a.2 + G * n1) = Y' - G * n1 := by grind
        have k' : (Y' - G * n1) * n1 - (X' + G * n2) * n2 = 0 := by
          have e : Y' * n1 - X' * n2 = G * (μ * μ) := eq_of_mul g0 (by grind)
          rw [mm] at e
          grind
        rw [q1, q2, len _ _ k'] at c
        have q3 : (X' + G * n2) * n1 + (Y' - G * n1) * n2 = X' * n1 + Y' * n2 := by grind
        rw [q3] at c
        have := high _ p0 k1
        grind
    · exfalso
      have Mg := mul_nn' (mul_nn' (show 0 ≤ G by grind) (show 0 ≤ G by grind)) (show 0 ≤ μ * μ by grind)
      rcases k2 with k | k
      · exact cross0 X' Y' hB' (by grind) (by rw [k]; grind) p0
      · exact cross0 X' Y' hB' (nn_div g0 (by rw [k]; grind)) (by grind) p0
  have way : ∀ t : Real, 0 ≤ t → t ≤ 1 → InS B (o a.1 + (X + t * (P - o r2 * n1 * i - X))) (o a.2 + (Y + t * (Q - o r2 * n2 * i - Y))) ∧ (X + t * (P - o r2 * n1 * i - X)) * n1 + (Y + t * (Q - o r2 * n2 * i - Y)) * n2 ≤ X * n1 + Y * n2 := fun t t0 t1 => by
    have inB := convex hB hz low0 t0 t1
    have q1 : o a.1 + (X + t * (P - o r2 * n1 * i - X)) = z + t * (o a.1 + (P - o r2 * n1 * i) - z) := by rw [zX]; grind
    have q2 : o a.2 + (Y + t * (Q - o r2 * n2 * i - Y)) = w + t * (o a.2 + (Q - o r2 * n2 * i) - w) := by rw [wY]; grind
    refine ⟨by rw [q1, q2]; exact inB, ?_⟩
    have k := mul_nn' t0 (show 0 ≤ X * n1 + Y * n2 - ((P - o r2 * n1 * i) * n1 + (Q - o r2 * n2 * i) * n2) by rw [hlow]; grind)
    grind
  rcases nn_or (Q * n1 - P * n2) with t0 | t0
  · rcases nn_or (G * G * (μ * μ) - G * (Q * n1 - P * n2)) with t1 | t1
    · -- within
      rcases nn_or (P * n1 + Q * n2 - o r2 * μ) with p0 | p0
      · by_cases rz : r2 = 0
        · left
          have oz := or2 rz
          obtain ⟨j, hj⟩ := inv_ex L0
          have j0 : 0 ≤ j := nn_div L0 (by rw [hj]; grind)
          have T0 := nn_mul g0 t0
          have s0 := mul_nn' T0 j0
          have s1 : G * (Q * n1 - P * n2) * j ≤ 1 := by
            have := mul_nn' t1 j0
            grind
          have c := corner2 rz _ _ (footA _ s0 s1)
          rw [cP, cQ] at c
          have k : (o a.2 + G * (Q * n1 - P * n2) * j * (o a.2 + G * n1 - o a.2) - (o a.2 + Q)) * n1 - (o a.1 + G * (Q * n1 - P * n2) * j * (o a.1 - G * n2 - o a.1) - (o a.1 + P)) * n2 = 0 := by
            have e : (o a.2 + G * (Q * n1 - P * n2) * j * (o a.2 + G * n1 - o a.2) - (o a.2 + Q)) * n1 - (o a.1 + G * (Q * n1 - P * n2) * j * (o a.1 - G * n2 - o a.1) - (o a.1 + P)) * n2 = (Q * n1 - P * n2) * (G * G * (n1 * n1 + n2 * n2) * j) - (Q * n1 - P * n2) := by grind
            rw [e, ← mm, hj]; grind
          rw [len _ _ k] at c
          have q : (o a.1 + G * (Q * n1 - P * n2) * j * (o a.1 - G * n2 - o a.1) - (o a.1 + P)) * n1 + (o a.2 + G * (Q * n1 - P * n2) * j * (o a.2 + G * n1 - o a.2) - (o a.2 + Q)) * n2 = -(P * n1 + Q * n2) := by grind
          rw [q] at c
          have := high (P * n1 + Q * n2) (by rw [oz] at p0; grind) (by rw [oz] at hle; grind)
          grind
        · right
          have rp := r2pos rz
          have orp := o_pos rp
          have rm := Real.mul_pos orp m0
          have c := mid rp (by grind) (by have := nn_mul g0 t0; grind) (by rw [mm] at t1; grind)
          have e : (P * n1 + Q * n2) * i - o r2 = (P * n1 + Q * n2 - o r2 * μ) * i := by
            have : (P * n1 + Q * n2 - o r2 * μ) * i = (P * n1 + Q * n2) * i - o r2 * (μ * i) := by grind
            rw [this, iv]; grind
          rw [e] at c
          have := mul_nn' (show 0 ≤ X * n1 + Y * n2 - (P * n1 + Q * n2 - o r2 * μ) by grind) iv0
          grind
      · exfalso
        exact cross0 _ _ low0 (by rw [tlow]; exact t0) (by rw [tlow]; grind) (by rw [hlow]; exact p0)
    · left
      by_cases tz : G * G * (μ * μ) - G * (Q * n1 - P * n2) = 0
      · exact beyond _ _ low0 (by rw [hlow]; exact hle) (.inr (by rw [tlow]; grind))
      · obtain ⟨t, t0', t1', ht⟩ := ratio (x := G * G * (μ * μ) - G * (Y * n1 - X * n2)) (y := G * G * (μ * μ) - G * (Q * n1 - P * n2)) (by grind) t1 (by
          rcases Real.tri' (G * G * (μ * μ) - G * (Q * n1 - P * n2)) 0 with y | y | y
          · grind
          · exact absurd y tz
          · grind)
        obtain ⟨w1, w2⟩ := way t t0' t1'
        refine beyond _ _ w1 w2 (.inr ?_)
        grind
  · left
    by_cases tz : Q * n1 - P * n2 = 0
    · exact beyond _ _ low0 (by rw [hlow]; exact hle) (.inl (by rw [tlow]; exact tz))
    · obtain ⟨t, t0', t1', ht⟩ := ratio (x := Y * n1 - X * n2) (y := Q * n1 - P * n2) b0' t0 (by
        rcases Real.tri' (Q * n1 - P * n2) 0 with y | y | y
        · grind
        · exact absurd y tz
        · grind)
      obtain ⟨w1, w2⟩ := way t t0' t1'
      refine beyond _ _ w1 w2 (.inl ?_)
      grind
end Rs

namespace Rs
open Lb Ld Rl
theorem sq_mono {a b : Real} (ha : 0 ≤ a) (h : a ≤ b) : a * a ≤ b * b := by
  have := mul_nn' (show 0 ≤ b - a by grind) (show 0 ≤ b + a by grind)
  grind
theorem least_lb {A B : Th} (hA : GoodTh A) (hB : GoodTh B) (dis : ∀ x y, InS A x y → ¬ InS B x y) {m : Real} (m0 : 0 ≤ m) (cA : cornerLB A B m) (cB : cornerLB B A m) (mA : midLB A B m) (mB : midLB B A m) : ∀ x y z w, InS A x y → InS B z w → m * m ≤ (z - x) * (z - x) + (w - y) * (w - y) := by
  intro x y z w hx hz
  rcases coverX hA z w with inA | ⟨f, hf, hs⟩
  · exact absurd hz (dis _ _ inA)
  · obtain ⟨nst, dp⟩ := face_nstX hA hf hs
    have lbx := nst.lb _ _ hx
    have fin : m * m ≤ fdX z w f * fdX z w f ∨ m ≤ fdX z w f → m * m ≤ (z - x) * (z - x) + (w - y) * (w - y) := fun h => by
      rcases h with h | h
      · grind
      · have := sq_mono m0 h
        grind
    cases f with
    | side a b => exact fin (side_lb hA hB dis cA cB mB hz hf hs)
    | round k r f l =>
      obtain ⟨_, _, _, r0, _⟩ := faces_good hA _ hf
      by_cases rz : r = 0
      · subst rz
        have c := cA k f l hf z w hz
        have N0 : 0 ≤ (z - o k.1) * (z - o k.1) + (w - o k.2) * (w - o k.2) := by
          have := Real.sq_nn (z - o k.1)
          have := Real.sq_nn (w - o k.2)
          grind
        refine fin (.inl ?_)
        have ed : fdX z w (.round k 0 f l) = rsq ((z - o k.1) * (z - o k.1) + (w - o k.2) * (w - o k.2)) - o 0 := rfl
        rw [ed, o_0]
        have nn := rsq_sq N0
        generalize rsq ((z - o k.1) * (z - o k.1) + (w - o k.2) * (w - o k.2)) = n at *
        have : (n - 0) * (n - 0) = n * n := by grind
        rw [this, nn]
        exact c
      · cases A with
        | spot p =>
          simp only [facesL, List.mem_cons, List.not_mem_nil, or_false, Fc.round.injEq] at hf
          exact absurd hf.2.1 rz
        | cord p q =>
          simp only [facesL, List.mem_cons, List.not_mem_nil, or_false, Fc.round.injEq, reduceCtorEq, false_or] at hf
          rcases hf with h | h <;> exact absurd h.2.1 rz
        | bow c p q =>
          have hf' := hf
          simp only [facesL, List.mem_cons, List.not_mem_nil, or_false, Fc.round.injEq, reduceCtorEq, false_or] at hf'
          rcases hf' with h | h | h
          · obtain ⟨rfl, _⟩ := h
            exact fin (arc_lb rfl hA hB dis cA mA hz hf (by omega) hs)
          · exact absurd h.2.1 rz
          · exact absurd h.2.1 rz
theorem cone_outI {f l u : P2} (h : coneR f l (o u.1) (o u.2)) : outI f l u := by
  rcases h with h | ⟨h1, h2⟩
  · exact .inl h
  · right
    unfold crs
    rw [← o_mul, ← o_mul, ← o_sub, ← o_0, o_le] at h1 h2
    exact ⟨h1, h2⟩
/-- a round and a face that look at one another are found -/
theorem found_of {A B : Th} (hA : GoodTh A) (hB : GoodTh B) {k : P2} {r : Int} {f l : P2} (hf : Fc.round k r f l ∈ facesL A) {g : Fc} (hg : g ∈ facesL B) (hs : spX (o k.1) (o k.2) g) (hc : coneR f l (dU k g) (dV k g)) (hp : 0 < fdX (o k.1) (o k.2) g - o r) : ∃ ρ, farP (.round k r f l) g = some ρ ∧ 0 < val ρ := by
  obtain ⟨_, _, _, r0, _⟩ := faces_good hA _ hf
  have fg := faces_good hB _ hg
  cases g with
  | side a b =>
    obtain ⟨ne, ba, bb, wh⟩ := fg
    obtain ⟨h0, b0, b1⟩ := hs
    have dk : DirOk 12 (outw a b) := outw_ok ne ba bb wh
    obtain ⟨m0, mm⟩ := len_real dk
    have l0 : (lenq (outw a b) : Int) ≠ 0 := fun z => by
      rw [show o (lenq (outw a b)) = o 0 by rw [z], o_0] at m0
      grind
    have iv := inv_of l0
    have bs : besideR (toR k) a b := by
      rw [beside_int]
      unfold dot dif
      dsimp only
      rw [← o_le, ← o_le, o_0, o_add, o_add, o_mul, o_mul, o_mul, o_mul, o_sub, o_sub, o_sub, o_sub]
      exact ⟨b0, b1⟩
    obtain ⟨n1, n2⟩ := o_neg2 (outw a b)
    have out : outI f l (neg2 (outw a b)) := cone_outI (by rw [n1, n2]; exact hc)
    refine ⟨⟨((dot (dif k a) (outw a b) - r * lenq (outw a b) : Int) : Rat) / ((lenq (outw a b) : Int) : Rat), 0, 0⟩, ?_, ?_⟩
    · show sideP a b k r f l = _
      unfold sideP
      rw [if_neg (fun z => z.elim (fun z => z bs) fun z => z out)]
    · have hv : val (⟨((dot (dif k a) (outw a b) - r * lenq (outw a b) : Int) : Rat) / ((lenq (outw a b) : Int) : Rat), 0, 0⟩ : Rt) * o (lenq (outw a b)) = (o k.1 - o a.1) * o (outw a b).1 + (o k.2 - o a.2) * o (outw a b).2 - o r * o (lenq (outw a b)) := by
        rw [val_fr, o_cast (lenq (outw a b)), ← Real.of_mul, Rat.div_mul_cancel (castne l0), ← o_cast, o_sub, o_mul]
        unfold dot dif
        dsimp only
        rw [o_add, o_mul, o_mul, o_sub, o_sub]
      have ed : fdX (o k.1) (o k.2) (.side a b) = ((o k.1 - o a.1) * o (outw a b).1 + (o k.2 - o a.2) * o (outw a b).2) * Real.of (1 / ((lenq (outw a b) : Int) : Rat)) := rfl
      rw [ed] at hp
      generalize val (⟨((dot (dif k a) (outw a b) - r * lenq (outw a b) : Int) : Rat) / ((lenq (outw a b) : Int) : Rat), 0, 0⟩ : Rt) = V at *
      generalize Real.of (1 / ((lenq (outw a b) : Int) : Rat)) = i at *
      have pm := Real.mul_pos hp m0
      have e : (((o k.1 - o a.1) * o (outw a b).1 + (o k.2 - o a.2) * o (outw a b).2) * i - o r) * o (lenq (outw a b)) = ((o k.1 - o a.1) * o (outw a b).1 + (o k.2 - o a.2) * o (outw a b).2) * (o (lenq (outw a b)) * i) - o r * o (lenq (outw a b)) := by grind
      rw [e, iv] at pm
      rcases Real.tri' V 0 with z | z | z
      · have := Real.mul_pos (show 0 < -V by grind) m0
        grind
      · rw [z] at hv; grind
      · exact z
  | round c2 r2 f2 l2 =>
    obtain ⟨_, _, _, r20, _⟩ := fg
    obtain ⟨h1, hc2⟩ := hs
    have R1 := o_nn r0
    have R2 := o_nn r20
    have eu : o (dif c2 k).1 = o c2.1 - o k.1 := by unfold dif; exact o_sub ..
    have ev1 : o (dif c2 k).2 = o c2.2 - o k.2 := by unfold dif; exact o_sub ..
    obtain ⟨n1, n2⟩ := o_neg2 (dif c2 k)
    have out1 : outI f l (dif c2 k) := cone_outI (by rw [eu, ev1]; exact hc)
    have out2 : outI f2 l2 (neg2 (dif c2 k)) := cone_outI (by
      rw [n1, n2, eu, ev1, show -(o c2.1 - o k.1) = o k.1 - o c2.1 by grind, show -(o c2.2 - o k.2) = o k.2 - o c2.2 by grind]
      exact hc2)
    have nz : dif c2 k ≠ (0, 0) := fun z => by
      rw [z] at eu ev1
      have s2 := Real.sq_nn (o r2)
      rw [show o ((0, 0) : P2).1 = 0 from o_0] at eu
      rw [show o ((0, 0) : P2).2 = 0 from o_0] at ev1
      have q1 : o k.1 - o c2.1 = 0 := by grind
      have q2 : o k.2 - o c2.2 = 0 := by grind
      rw [q1, q2] at h1
      grind
    have eN : o (dot (dif c2 k) (dif c2 k)) = (o k.1 - o c2.1) * (o k.1 - o c2.1) + (o k.2 - o c2.2) * (o k.2 - o c2.2) := by
      unfold dot
      rw [o_add, o_mul, o_mul, eu, ev1]; grind
    have N0 : (0 : Rat) ≤ ((dot (dif c2 k) (dif c2 k) : Int) : Rat) := by
      rw [← of_ge0, ← o_cast, eN]
      have := Real.sq_nn (o k.1 - o c2.1)
      have := Real.sq_nn (o k.2 - o c2.2)
      grind
    refine ⟨canon ((0 - r - r2 : Int) : Rat) 1 ((dot (dif c2 k) (dif c2 k) : Int) : Rat), ?_, ?_⟩
    · show roundP k r f l c2 r2 f2 l2 = _
      unfold roundP
      rw [if_neg (fun z => z.elim nz fun z => z.elim (fun z => z out1) fun z => z out2)]
    · have hv : val (canon ((0 - r - r2 : Int) : Rat) 1 ((dot (dif c2 k) (dif c2 k) : Int) : Rat)) = rtq ((dot (dif c2 k) (dif c2 k) : Int) : Rat) - o r - o r2 := by
        rw [canon_val N0, of_int1, o_cast, of_int_sub, of_int_sub, of_int0]
        grind
      have ed : fdX (o k.1) (o k.2) (.round c2 r2 f2 l2) = rsq ((o k.1 - o c2.1) * (o k.1 - o c2.1) + (o k.2 - o c2.2) * (o k.2 - o c2.2)) - o r2 := rfl
      rw [ed] at hp
      rw [hv]
      have er : rtq ((dot (dif c2 k) (dif c2 k) : Int) : Rat) = rsq ((o k.1 - o c2.1) * (o k.1 - o c2.1) + (o k.2 - o c2.2) * (o k.2 - o c2.2)) := by
        refine Real.sq_inj (rtq_nn _) (rsq_nn _) ?_
        rw [rtq_sq N0, ← o_cast, eN, rsq_sq]
        rw [← eN, o_cast]
        exact of_nn N0
      rw [er]
      grind
/-- a corner out of which no way is nearer: the direction is one of its cone -/
theorem corner_cone {A : Th} (hA : GoodTh A) {v f l : P2} (hf : Fc.round v 0 f l ∈ facesL A) {u1 v1 : Real} (h : ∀ x y, InS A x y → (x - o v.1) * u1 + (y - o v.2) * v1 ≤ 0) : coneR f l u1 v1 := by
  cases A with
  | spot p =>
    simp only [facesL, List.mem_cons, List.not_mem_nil, or_false, Fc.round.injEq] at hf
    obtain ⟨_, _, rfl, rfl⟩ := hf
    exact .inl rfl
  | cord p q =>
    have hne := hA.2.2.1
    obtain ⟨G, g0, g1, g2⟩ := out_rel hne
    obtain ⟨G', g0', g1', g2'⟩ := out_rel (Ne.symm hne)
    have ip : InS (.cord p q) (o p.1) (o p.2) := ⟨0, by grind, by grind, by grind, by grind⟩
    have iq : InS (.cord p q) (o q.1) (o q.2) := ⟨1, by grind, by grind, by grind, by grind⟩
    have e1 : G * (o (outw p q).1 * v1 - o (outw p q).2 * u1) = (o q.2 - o p.2) * v1 + (o q.1 - o p.1) * u1 := by
      have : G * (o (outw p q).1 * v1 - o (outw p q).2 * u1) = (G * o (outw p q).1) * v1 - (G * o (outw p q).2) * u1 := by grind
      rw [this, ← g1, ← g2]; grind
    have e2 : G' * (u1 * o (outw q p).2 - v1 * o (outw q p).1) = (o q.2 - o p.2) * v1 + (o q.1 - o p.1) * u1 := by
      have : G' * (u1 * o (outw q p).2 - v1 * o (outw q p).1) = u1 * (G' * o (outw q p).2) - v1 * (G' * o (outw q p).1) := by grind
      rw [this, ← g1', ← g2']; grind
    have e3 : G' * (o (outw q p).1 * v1 - o (outw q p).2 * u1) = -((o q.2 - o p.2) * v1 + (o q.1 - o p.1) * u1) := by
      have : G' * (o (outw q p).1 * v1 - o (outw q p).2 * u1) = (G' * o (outw q p).1) * v1 - (G' * o (outw q p).2) * u1 := by grind
      rw [this, ← g1', ← g2']; grind
    have e4 : G * (u1 * o (outw p q).2 - v1 * o (outw p q).1) = -((o q.2 - o p.2) * v1 + (o q.1 - o p.1) * u1) := by
      have : G * (u1 * o (outw p q).2 - v1 * o (outw p q).1) = u1 * (G * o (outw p q).2) - v1 * (G * o (outw p q).1) := by grind
      rw [this, ← g1, ← g2]; grind
    simp only [facesL, List.mem_cons, List.not_mem_nil, or_false, Fc.round.injEq, reduceCtorEq, false_or] at hf
    rcases hf with ⟨rfl, _, rfl, rfl⟩ | ⟨rfl, _, rfl, rfl⟩
    · have := h _ _ ip
      exact .inr ⟨nn_div g0 (by rw [e1]; grind), nn_div g0' (by rw [e2]; grind)⟩
    · have := h _ _ iq
      exact .inr ⟨nn_div g0' (by rw [e3]; grind), nn_div g0 (by rw [e4]; grind)⟩
  | bow k p q =>
    have hb := hA.2.2.2
    obtain ⟨a, b, d, e, R, ρ, w⟩ := bw_of hb
    obtain ⟨np, nq⟩ := hb.np
    obtain ⟨n1', n2', n3'⟩ := bow_ne hb
    obtain ⟨g, g0, g1, g2⟩ := low_rel (dif_ne np)
    obtain ⟨g', g0', g1', g2'⟩ := low_rel (dif_ne nq)
    obtain ⟨G, G0, G1, G2⟩ := out_rel (Ne.symm hb.ne)
    have d1 : o (dif p k).1 = a := by unfold dif; rw [o_sub]; exact w.ea
    have d2 : o (dif p k).2 = b := by unfold dif; rw [o_sub]; exact w.eb
    have d3 : o (dif q k).1 = d := by unfold dif; rw [o_sub]; exact w.ed
    have d4 : o (dif q k).2 = e := by unfold dif; rw [o_sub]; exact w.ee
    rw [d1] at g1
    rw [d2] at g2
    rw [d3] at g1'
    rw [d4] at g2'
    have G1' : b - e = G * o (outw q p).1 := by rw [← G1, ← w.eb, ← w.ee]; grind
    have G2' : d - a = G * o (outw q p).2 := by rw [← G2, ← w.ea, ← w.ed]; grind
    have hp := w.hp
    have hq := w.hq
    have tn := w.tn
    have ne := w.ne
    have rr := w.rr
    have ρ0 := w.r0
    have ip : InS (.bow k p q) (o p.1) (o p.2) := (bow_in w).mpr (by rw [w.ea, w.eb]; exact ⟨by grind, by grind⟩)
    have iq : InS (.bow k p q) (o q.1) (o q.2) := (bow_in w).mpr (by rw [w.ed, w.ee]; exact ⟨by grind, by grind⟩)
    obtain ⟨hh, eh⟩ : ∃ h, h = u1 * (b - e) + v1 * (d - a) := ⟨_, rfl⟩
    obtain ⟨t, ht⟩ : ∃ t, t = u1 * (a - d) + v1 * (b - e) := ⟨_, rfl⟩
    obtain ⟨L, hL⟩ : ∃ L, L = (a - d) * (a - d) + (b - e) * (b - e) := ⟨_, rfl⟩
    obtain ⟨al, hal⟩ : ∃ al, al = a * v1 - b * u1 := ⟨_, rfl⟩
    obtain ⟨be, hbe⟩ : ∃ be, be = u1 * e - v1 * d := ⟨_, rfl⟩
    have eB : L * be = t * (a * e - b * d) - hh * (R - (a * d + b * e)) := by rw [hL, hbe, ht, eh, ← hq]; grind
    have eA : L * al = -(t * (a * e - b * d)) - hh * (R - (a * d + b * e)) := by rw [hL, hal, ht, eh, ← hp]; grind
    have Lp : 0 < L := by
      rw [hL]
      refine pos_sq fun z => ?_
      have e1 : a = d := by grind
      have e2 : b = e := by grind
      rw [e1, e2] at ne
      grind
    -- the arc's place in this direction
    have arc : 0 ≤ al → 0 ≤ be → ¬ (u1 = 0 ∧ v1 = 0) → ∃ X Y N, InS (.bow k p q) (o k.1 + X) (o k.2 + Y) ∧ 0 < N ∧ N * N = u1 * u1 + v1 * v1 ∧ X * u1 + Y * v1 = ρ * N := fun z1 z2 nz => by
      have P0 := pos_sq nz
      have N0 := rsq_nn (u1 * u1 + v1 * v1)
      have NN := rsq_sq (show 0 ≤ u1 * u1 + v1 * v1 by grind)
      generalize rsq (u1 * u1 + v1 * v1) = N at *
      have Np : 0 < N := by
        rcases Real.tri' 0 N with y | y | y
        · exact y
        · rw [← y] at NN; grind
        · grind
      obtain ⟨iv, hiv⟩ := inv_ex Np
      have fa : Fc.round k (isq (far k p).toNat) (low (dif p k)) (low (dif q k)) ∈ facesL (.bow k p q) := by simp [facesL]
      have cn : coneR (low (dif p k)) (low (dif q k)) u1 v1 := by
        refine .inr ⟨nn_div g0 ?_, nn_div g0' ?_⟩
        · have : g * (o (low (dif p k)).1 * v1 - o (low (dif p k)).2 * u1) = (g * o (low (dif p k)).1) * v1 - (g * o (low (dif p k)).2) * u1 := by grind
          rw [this, ← g1, ← g2, ← hal]; exact z1
        · have : g' * (u1 * o (low (dif q k)).2 - v1 * o (low (dif q k)).1) = u1 * (g' * o (low (dif q k)).2) - v1 * (g' * o (low (dif q k)).1) := by grind
          rw [this, ← g1', ← g2', ← hbe]; exact z2
      refine ⟨ρ * u1 * iv, ρ * v1 * iv, N, foot_round hA fa Np NN cn ?_ ?_, Np, NN, ?_⟩
      · rw [w.er, show (o k.1 + ρ * u1 * iv - o k.1) * N = ρ * u1 * (N * iv) by grind, hiv]; grind
      · rw [w.er, show (o k.2 + ρ * v1 * iv - o k.2) * N = ρ * v1 * (N * iv) by grind, hiv]; grind
      · rw [show ρ * u1 * iv * u1 + ρ * v1 * iv * v1 = ρ * (u1 * u1 + v1 * v1) * iv by grind, ← NN, show ρ * (N * N) * iv = ρ * N * (N * iv) by grind, hiv]; grind
    have less : ∀ {s N c : Real}, ρ * N ≤ s → 0 < N → s * s + c * c = (ρ * N) * (ρ * N) → c = 0 := fun {s N c} h1 h2 h3 => by
      have p := Real.mul_pos ρ0 h2
      have := sq_mono (show 0 ≤ ρ * N by grind) h1
      have c0 := Real.sq_nn c
      have : c * c = 0 := by grind
      rcases Real.mul_zero' this with z | z <;> exact z
    simp only [facesL, List.mem_cons, List.not_mem_nil, or_false, Fc.round.injEq, reduceCtorEq, false_or] at hf
    rcases hf with ⟨_, hz, _, _⟩ | ⟨rfl, _, rfl, rfl⟩ | ⟨rfl, _, rfl, rfl⟩
    · exfalso
      have := w.er
      rw [← hz, o_0] at this
      grind
    · have hq' := h _ _ ip
      have t0 : t ≤ 0 := by rw [ht, ← w.ea, ← w.eb, ← w.ed, ← w.ee]; grind
      have b0 : be ≤ 0 := by
        rcases nn_or be with y | y
        · rcases nn_or al with x | x
          · by_cases nz : u1 = 0 ∧ v1 = 0
            · rw [hbe, nz.1, nz.2]; grind
            · obtain ⟨X, Y, N, iX, Np, NN, es⟩ := arc x y nz
              have k1 := h _ _ iX
              have e1 : o k.1 + X - o v.1 = X - d := by rw [← w.ed]; grind
              have e2 : o k.2 + Y - o v.2 = Y - e := by rw [← w.ee]; grind
              rw [e1, e2] at k1
              have := less (s := d * u1 + e * v1) (N := N) (c := be) (by grind) Np (by rw [hbe, show (ρ * N) * (ρ * N) = (ρ * ρ) * (N * N) by grind, rr, NN, ← hq]; grind)
              grind
          · have m1 := mul_nn' (show 0 ≤ -t by grind) tn
            have m2 := mul_nn' (show 0 ≤ L by grind) y
            have m3 := mul_nn' (show 0 ≤ L by grind) (show 0 ≤ -al by grind)
            have : L * be ≤ 0 := by grind
            exact le_of_mul Lp (by grind)
        · exact y
      refine .inr ⟨nn_div g0' ?_, nn_div G0 ?_⟩
      · have : g' * (o (low (dif v k)).1 * v1 - o (low (dif v k)).2 * u1) = (g' * o (low (dif v k)).1) * v1 - (g' * o (low (dif v k)).2) * u1 := by grind
        rw [this, ← g1', ← g2']; grind
      · have : G * (u1 * o (outw v p).2 - v1 * o (outw v p).1) = u1 * (G * o (outw v p).2) - v1 * (G * o (outw v p).1) := by grind
        rw [this, ← G1', ← G2']; grind
    · have hq' := h _ _ iq
      have t0 : 0 ≤ t := by rw [ht, ← w.ea, ← w.eb, ← w.ed, ← w.ee]; grind
      have a0 : al ≤ 0 := by
        rcases nn_or al with x | x
        · rcases nn_or be with y | y
          · by_cases nz : u1 = 0 ∧ v1 = 0
            · rw [hal, nz.1, nz.2]; grind
            · obtain ⟨X, Y, N, iX, Np, NN, es⟩ := arc x y nz
              have k1 := h _ _ iX
              have e1 : o k.1 + X - o v.1 = X - a := by rw [← w.ea]; grind
              have e2 : o k.2 + Y - o v.2 = Y - b := by rw [← w.eb]; grind
              rw [e1, e2] at k1
              have := less (s := a * u1 + b * v1) (N := N) (c := al) (by grind) Np (by rw [hal, show (ρ * N) * (ρ * N) = (ρ * ρ) * (N * N) by grind, rr, NN, ← hp]; grind)
              grind
          · have m1 := mul_nn' t0 tn
            have m2 := mul_nn' (show 0 ≤ L by grind) x
            have m3 := mul_nn' (show 0 ≤ L by grind) (show 0 ≤ -be by grind)
            have : L * al ≤ 0 := by grind
            exact le_of_mul Lp (by grind)
        · exact x
      refine .inr ⟨nn_div G0 ?_, nn_div g0 ?_⟩
      · have : G * (o (outw q v).1 * v1 - o (outw q v).2 * u1) = (G * o (outw q v).1) * v1 - (G * o (outw q v).2) * u1 := by grind
        rw [this, ← G1', ← G2']; grind
      · have : g * (u1 * o (low (dif v k)).2 - v1 * o (low (dif v k)).1) = u1 * (g * o (low (dif v k)).2) - v1 * (g * o (low (dif v k)).1) := by grind
        rw [this, ← g1, ← g2]; grind
end Rs

/-! two things apart: the least candidate is the told distance -/
namespace Rs
open Lb Ld Rl
/-- all of B lies beyond the whole round of A's arc -/
def beyond (A B : Th) : Prop := ∀ c r f l, 0 < r → Fc.round c r f l ∈ facesL A → ∀ z w, InS B z w → o r * o r < (z - o c.1) * (z - o c.1) + (w - o c.2) * (w - o c.2)
def cornC (A B : Th) (m : Real) : Prop := ∃ v f l g, Fc.round v 0 f l ∈ facesL A ∧ g ∈ facesL B ∧ spX (o v.1) (o v.2) g ∧ m = fdX (o v.1) (o v.2) g
def midC (A B : Th) (m : Real) : Prop := ∃ c r f l g, 0 < r ∧ Fc.round c r f l ∈ facesL A ∧ g ∈ facesL B ∧ spX (o c.1) (o c.2) g ∧ coneR f l (dU c g) (dV c g) ∧ m = fdX (o c.1) (o c.2) g - o r
theorem corner_in {A : Th} (hA : GoodTh A) {v f l : P2} (hf : Fc.round v 0 f l ∈ facesL A) : InS A (o v.1) (o v.2) := by
  cases A with
  | spot p =>
    simp only [facesL, List.mem_cons, List.not_mem_nil, or_false, Fc.round.injEq] at hf
    obtain ⟨rfl, _, _, _⟩ := hf
    exact ⟨rfl, rfl⟩
  | cord p q =>
    simp only [facesL, List.mem_cons, List.not_mem_nil, or_false, Fc.round.injEq, reduceCtorEq, false_or] at hf
    rcases hf with ⟨rfl, _⟩ | ⟨rfl, _⟩
    · exact ⟨1, by grind, by grind, by grind, by grind⟩
    · exact ⟨0, by grind, by grind, by grind, by grind⟩
  | bow k p q =>
    have hb := hA.2.2.2
    obtain ⟨a, b, d, e, R, ρ, w⟩ := bw_of hb
    have hp := w.hp
    have hq := w.hq
    have tn := w.tn
    have ρ0 := w.r0
    simp only [facesL, List.mem_cons, List.not_mem_nil, or_false, Fc.round.injEq, reduceCtorEq, false_or] at hf
    rcases hf with ⟨_, hz, _, _⟩ | ⟨rfl, _, _, _⟩ | ⟨rfl, _, _, _⟩
    · exfalso
      have := w.er
      rw [← hz, o_0] at this
      grind
    · exact (bow_in w).mpr (by rw [w.ed, w.ee]; exact ⟨by grind, by grind⟩)
    · exact (bow_in w).mpr (by rw [w.ea, w.eb]; exact ⟨by grind, by grind⟩)
theorem cone_scale {f l : P2} {u v x y κ : Real} (h0 : 0 < κ) (e1 : x = κ * u) (e2 : y = κ * v) (h : coneR f l u v) : coneR f l x y := by
  subst e1 e2
  rcases h with h | ⟨h1, h2⟩
  · exact .inl h
  · right
    have a := mul_nn' (show 0 ≤ κ by grind) h1
    have b := mul_nn' (show 0 ≤ κ by grind) h2
    exact ⟨by grind, by grind⟩
def att (A B : Th) (m : Real) : Prop := ∃ x y z w, InS A x y ∧ InS B z w ∧ (z - x) * (z - x) + (w - y) * (w - y) = m * m
theorem att_symm {A B : Th} {m : Real} (h : att A B m) : att B A m := by
  obtain ⟨x, y, z, w, a, b, e⟩ := h
  exact ⟨z, w, x, y, b, a, by rw [← e]; grind⟩
theorem cornC_att {A B : Th} (hA : GoodTh A) (hB : GoodTh B) {m : Real} (h : cornC A B m) : 0 < m ∧ att A B m := by
  obtain ⟨v, f, l, g, hf, hg, hs, rfl⟩ := h
  obtain ⟨nst, dp⟩ := face_nstX hB hg hs
  obtain ⟨z, w, κ, hz, _, _, _, e⟩ := foot_dir hB hg hs
  exact ⟨dp, _, _, z, w, corner_in hA hf, hz, by rw [← e]; grind⟩
theorem midC_att {A B : Th} (hA : GoodTh A) (hB : GoodTh B) (by_ : beyond A B) {m : Real} (h : midC A B m) : 0 < m ∧ att A B m := by
  obtain ⟨c, r, f, l, g, r0, hf, hg, hs, hc, rfl⟩ := h
  obtain ⟨nst, dp⟩ := face_nstX hB hg hs
  obtain ⟨z, w, κ, hz, k0, ez, ew, e⟩ := foot_dir hB hg hs
  have R := o_pos r0
  have far' := by_ c r f l r0 hf z w hz
  generalize fdX (o c.1) (o c.2) g = d at *
  have e' : d * d = (z - o c.1) * (z - o c.1) + (w - o c.2) * (w - o c.2) := by rw [← e]; grind
  have lt : o r < d := lt_of_sq (by grind) (by grind) (by rw [e']; exact far')
  obtain ⟨iv, hiv⟩ := inv_ex dp
  have cn := cone_scale k0 ez ew hc
  have ft := foot_round hA hf (x := o c.1 + o r * (z - o c.1) * iv) (y := o c.2 + o r * (w - o c.2) * iv) dp e' cn (by grind) (by grind)
  refine ⟨by grind, _, _, z, w, ft, hz, ?_⟩
  have e1 : z - (o c.1 + o r * (z - o c.1) * iv) = (z - o c.1) * (1 - o r * iv) := by grind
  have e2 : w - (o c.2 + o r * (w - o c.2) * iv) = (w - o c.2) * (1 - o r * iv) := by grind
  rw [e1, e2]
  have e3 : (z - o c.1) * (1 - o r * iv) * ((z - o c.1) * (1 - o r * iv)) + (w - o c.2) * (1 - o r * iv) * ((w - o c.2) * (1 - o r * iv)) = (d * d) * ((1 - o r * iv) * (1 - o r * iv)) := by rw [e']; grind
  have e4 : d * (1 - o r * iv) = d - o r := by grind
  rw [e3, ← e4]
  grind
/-- from the nearest place of a thing no way into it goes nearer -/
theorem nearest_way {A : Th} (hA : GoodTh A) {x y z w p q : Real} (h0 : InS A x y) (lb : ∀ u v, InS A u v → (z - x) * (z - x) + (w - y) * (w - y) ≤ (z - u) * (z - u) + (w - v) * (w - v)) (h1 : InS A p q) : (p - x) * (z - x) + (q - y) * (w - y) ≤ 0 := by
  rcases Real.tri' 0 ((p - x) * (z - x) + (q - y) * (w - y)) with h | h | h
  · exfalso
    obtain ⟨K, hK⟩ : ∃ K, K = (p - x) * (z - x) + (q - y) * (w - y) := ⟨_, rfl⟩
    obtain ⟨N, hN⟩ : ∃ N, N = (p - x) * (p - x) + (q - y) * (q - y) := ⟨_, rfl⟩
    have s1 := Real.sq_nn (p - x)
    have s2 := Real.sq_nn (q - y)
    have N0 : 0 ≤ N := by rw [hN]; grind
    rw [← hK] at h
    have D : 0 < N + K := by grind
    obtain ⟨iv, hiv⟩ := inv_ex D
    have iv0 : 0 ≤ iv := nn_div D (by rw [hiv]; grind)
    have t0 : 0 ≤ K * iv := mul_nn' (by grind) iv0
    have ni := mul_nn' N0 iv0
    have t1 : K * iv ≤ 1 := by grind
    have c := convex hA h0 h1 t0 t1
    have l := lb _ _ c
    have ht : K * iv * (N + K) = K := by rw [show K * iv * (N + K) = K * ((N + K) * iv) by grind, hiv]; grind
    generalize K * iv = t at *
    have e : (z - (x + t * (p - x))) * (z - (x + t * (p - x))) + (w - (y + t * (q - y))) * (w - (y + t * (q - y))) = (z - x) * (z - x) + (w - y) * (w - y) - 2 * t * K + t * t * N := by rw [hK, hN]; grind
    rw [e] at l
    have tp : 0 < t := by
      rcases Real.tri' 0 t with k | k | k
      · exact k
      · rw [← k] at ht; grind
      · grind
    have tk := Real.mul_pos tp h
    have ttk := Real.mul_pos tp tk
    have e2 : t * t * N = t * K - t * (t * K) := by
      have : t * (t * (N + K)) = t * K := by rw [ht]
      grind
    rw [e2] at l
    grind
  · grind
  · grind
/-- a corner's candidate, if the least, is a pair that the program finds -/
theorem cornC_found {A B : Th} (hA : GoodTh A) (hB : GoodTh B) {m : Real} (h : cornC A B m) (lb : ∀ x y z w, InS A x y → InS B z w → m * m ≤ (z - x) * (z - x) + (w - y) * (w - y)) : ∃ f ∈ facesL A, ∃ g ∈ facesL B, ∃ ρ, farP f g = some ρ ∧ 0 < val ρ := by
  obtain ⟨v, f, l, g, hf, hg, hs, rfl⟩ := h
  obtain ⟨nst, dp⟩ := face_nstX hB hg hs
  obtain ⟨z, w, κ, hz, k0, ez, ew, e⟩ := foot_dir hB hg hs
  have cn : coneR f l (dU v g) (dV v g) := corner_cone hA hf fun x y hx => by
    have := nearest_way hA (z := z) (w := w) (corner_in hA hf) (fun p q hp => by
      have := lb _ _ _ _ hp hz
      rw [← e] at this
      grind) hx
    refine le_of_mul k0 ?_
    rw [ez, ew] at this
    grind
  obtain ⟨ρ, h1, h2⟩ := found_of hA hB hf hg hs cn (by rw [o_0]; grind)
  exact ⟨_, hf, g, hg, ρ, h1, h2⟩
theorem midC_found {A B : Th} (hA : GoodTh A) (hB : GoodTh B) {m : Real} (h : midC A B m) (hm : 0 < m) : ∃ f ∈ facesL A, ∃ g ∈ facesL B, ∃ ρ, farP f g = some ρ ∧ 0 < val ρ := by
  obtain ⟨c, r, f, l, g, r0, hf, hg, hs, hc, rfl⟩ := h
  obtain ⟨ρ, h1, h2⟩ := found_of hA hB hf hg hs hc hm
  exact ⟨_, hf, g, hg, ρ, h1, h2⟩
theorem neg2_dif (a b : P2) : neg2 (dif a b) = dif b a := by
  unfold neg2 dif
  exact Prod.ext (by dsimp only; omega) (by dsimp only; omega)
theorem farP_symm (f g : Fc) : farP f g = farP g f := by
  cases f with
  | side a b => cases g <;> rfl
  | round c1 r1 f1 l1 =>
    cases g with
    | side a b => rfl
    | round c2 r2 f2 l2 =>
      show roundP .. = roundP ..
      unfold roundP
      rw [neg2_dif, neg2_dif, show dot (dif c1 c2) (dif c1 c2) = dot (dif c2 c1) (dif c2 c1) by unfold dot dif; grind, show (0 - r2 - r1 : Int) = 0 - r1 - r2 by omega]
      have z : dif c1 c2 = (0, 0) ↔ dif c2 c1 = (0, 0) := by
        rw [← neg2_dif c2 c1]
        unfold neg2
        rw [Prod.ext_iff, Prod.ext_iff]
        dsimp only
        omega
      by_cases h1 : dif c2 c1 = (0, 0) <;> by_cases h2 : outI f1 l1 (dif c2 c1) <;> by_cases h3 : outI f2 l2 (dif c1 c2) <;> simp [z, h1, h2, h3]
/-- the least candidate is what the program tells, either way around -/
theorem ap_val {A B : Th} (hA : GoodTh A) (hB : GoodTh B) (dis : ∀ x y, InS A x y → ¬ InS B x y) (b1 : beyond A B) (b2 : beyond B A) {m : Real} (cA : cornerLB A B m) (cB : cornerLB B A m) (mA : midLB A B m) (mB : midLB B A m) (h : cornC A B m ∨ cornC B A m ∨ midC A B m ∨ midC B A m) : val (apR A B) = m ∧ val (apR B A) = m := by
  have at_ : 0 < m ∧ att A B m := by
    rcases h with h | h | h | h
    · exact cornC_att hA hB h
    · obtain ⟨a, b⟩ := cornC_att hB hA h
      exact ⟨a, att_symm b⟩
    · exact midC_att hA hB b1 h
    · obtain ⟨a, b⟩ := midC_att hB hA b2 h
      exact ⟨a, att_symm b⟩
  obtain ⟨mp, at_⟩ := at_
  have lb := least_lb hA hB dis (show 0 ≤ m by grind) cA cB mA mB
  have ap : Apt A B m := ⟨by grind, lb, at_⟩
  have found : ∃ f ∈ facesL A, ∃ g ∈ facesL B, ∃ ρ, farP f g = some ρ ∧ 0 < val ρ := by
    have swap : (∃ f ∈ facesL B, ∃ g ∈ facesL A, ∃ ρ, farP f g = some ρ ∧ 0 < val ρ) → ∃ f ∈ facesL A, ∃ g ∈ facesL B, ∃ ρ, farP f g = some ρ ∧ 0 < val ρ := fun ⟨f, hf, g, hg, ρ, h1, h2⟩ => ⟨g, hg, f, hf, ρ, by rw [farP_symm]; exact h1, h2⟩
    rcases h with h | h | h | h
    · exact cornC_found hA hB h lb
    · exact swap (cornC_found hB hA h ap.symm.lb)
    · exact midC_found hA hB h mp
    · exact swap (midC_found hB hA h mp)
  obtain ⟨f, hf, g, hg, ρ, h1, h2⟩ := found
  constructor
  · rcases apR_cases A B with ⟨f', hf', g', hg', ρ', h1', h2', e⟩ | ⟨_, no⟩
    · rw [e]; exact apt_uniq (pair_apt hA hB hf' hg' h1' h2') ap
    · exact absurd h2 (no f hf g hg ρ h1)
  · rcases apR_cases B A with ⟨f', hf', g', hg', ρ', h1', h2', e⟩ | ⟨_, no⟩
    · rw [e]; exact apt_uniq (pair_apt hB hA hf' hg' h1' h2') ap.symm
    · exact absurd h2 (no g hg f hf ρ (by rw [farP_symm]; exact h1))
/-- so, where its root is a right one, it is the root that the program tells -/
theorem ap_law {A B : Th} (hA : GoodTh A) (hB : GoodTh B) (dis : ∀ x y, InS A x y → ¬ InS B x y) (b1 : beyond A B) (b2 : beyond B A) {ρ : Rt} (ok : Ok ρ) (cn : Cn ρ) (cA : cornerLB A B (val ρ)) (cB : cornerLB B A (val ρ)) (mA : midLB A B (val ρ)) (mB : midLB B A (val ρ)) (h : cornC A B (val ρ) ∨ cornC B A (val ρ) ∨ midC A B (val ρ) ∨ midC B A (val ρ)) : apR A B = ρ ∧ apR B A = ρ := by
  obtain ⟨e1, e2⟩ := ap_val hA hB dis b1 b2 cA cB mA mB h
  exact ⟨val_inj' (ap_ok A B).1 ok (ap_ok A B).2 cn e1, val_inj' (ap_ok B A).1 ok (ap_ok B A).2 cn e2⟩
/-- things that meet -/
theorem ap_meet {A B : Th} (hA : GoodTh A) (hB : GoodTh B) {x y : Real} (h1 : InS A x y) (h2 : InS B x y) : apR A B = ⟨0, 0, 0⟩ ∧ apR B A = ⟨0, 0, 0⟩ := by
  have one : ∀ {A B : Th}, GoodTh A → GoodTh B → InS A x y → InS B x y → apR A B = ⟨0, 0, 0⟩ := fun {A B} hA hB h1 h2 => by
    obtain ⟨n, l⟩ := ap_lb hA hB
    have k := l _ _ _ _ h1 h2
    have s := Real.sq_nn (val (apR A B))
    have z : val (apR A B) * val (apR A B) = 0 := by grind
    have z' : val (apR A B) = 0 := by rcases Real.mul_zero' z with q | q <;> exact q
    exact val_inj' (ap_ok A B).1 (ok_fr0 0) (ap_ok A B).2 (cn_fr0 0) (by rw [z', val_fr, Real.of_zero])
  exact ⟨one hA hB h1 h2, one hB hA h2 h1⟩
end Rs

/-! things whose boxes lie apart -/
namespace Rs
open Lb Ld Rl
/-- the spots that a thing's box is drawn about -/
def boxL : Th → List P2
  | .spot p => [p]
  | .cord p q => [p, q]
  | .bow c p q => [c, p, q, (c.1 - isq (far c p).toNat, c.2 - isq (far c p).toNat), (c.1 + isq (far c p).toNat, c.2 + isq (far c p).toNat)]
theorem abs_le {x r : Real} (hr : 0 ≤ r) (h : x * x ≤ r * r) : -r ≤ x ∧ x ≤ r := by
  rcases nn_or x with z | z
  · have := ge_of_sq hr z h
    exact ⟨by grind, this⟩
  · have := ge_of_sq (x := -x) hr (by grind) (by grind)
    exact ⟨by grind, by grind⟩
theorem in_box {T : Th} (hT : GoodTh T) {x y : Real} (h : InS T x y) (i j : Int) : ((∀ p ∈ boxL T, p.1 ≤ i) → x ≤ o i) ∧ ((∀ p ∈ boxL T, j ≤ p.1) → o j ≤ x) ∧ ((∀ p ∈ boxL T, p.2 ≤ i) → y ≤ o i) ∧ ((∀ p ∈ boxL T, j ≤ p.2) → o j ≤ y) := by
  cases T with
  | spot p =>
    obtain ⟨rfl, rfl⟩ := h
    refine ⟨fun k => o_le.mpr (k p (by simp [boxL])), fun k => o_le.mpr (k p (by simp [boxL])), fun k => o_le.mpr (k p (by simp [boxL])), fun k => o_le.mpr (k p (by simp [boxL]))⟩
  | cord p q =>
    obtain ⟨s, s0, s1, rfl, rfl⟩ := h
    have hi : ∀ {a b c : Int}, a ≤ c → b ≤ c → o a + s * (o b - o a) ≤ o c := fun {a b c} h1 h2 => by
      have u := o_le.mpr h1
      have v := o_le.mpr h2
      have m1 := mul_nn' s0 (show 0 ≤ o c - o b by grind)
      have m2 := mul_nn' (show 0 ≤ 1 - s by grind) (show 0 ≤ o c - o a by grind)
      grind
    have lo : ∀ {a b c : Int}, c ≤ a → c ≤ b → o c ≤ o a + s * (o b - o a) := fun {a b c} h1 h2 => by
      have u := o_le.mpr h1
      have v := o_le.mpr h2
      have m1 := mul_nn' s0 (show 0 ≤ o b - o c by grind)
      have m2 := mul_nn' (show 0 ≤ 1 - s by grind) (show 0 ≤ o a - o c by grind)
      grind
    exact ⟨fun k => hi (k p (by simp [boxL])) (k q (by simp [boxL])), fun k => lo (k p (by simp [boxL])) (k q (by simp [boxL])), fun k => hi (k p (by simp [boxL])) (k q (by simp [boxL])), fun k => lo (k p (by simp [boxL])) (k q (by simp [boxL]))⟩
  | bow c p q =>
    have hb := hT.2.2.2
    obtain ⟨a, b, d, e, R, ρ, w⟩ := bw_of hb
    have i1 := ((bow_in w).mp h).1
    have er := w.er
    have rr := w.rr
    have ρ0 := w.r0
    have s1 := Real.sq_nn (x - o c.1)
    have s2 := Real.sq_nn (y - o c.2)
    rw [← rr] at i1
    obtain ⟨x1, x2⟩ := abs_le (x := x - o c.1) (r := ρ) (by grind) (by grind)
    obtain ⟨y1, y2⟩ := abs_le (x := y - o c.2) (r := ρ) (by grind) (by grind)
    refine ⟨fun k => ?_, fun k => ?_, fun k => ?_, fun k => ?_⟩
    · have := o_le.mpr (k (c.1 + isq (far c p).toNat, c.2 + isq (far c p).toNat) (by simp [boxL]))
      dsimp only at this
      rw [o_add, er] at this; grind
    · have := o_le.mpr (k (c.1 - isq (far c p).toNat, c.2 - isq (far c p).toNat) (by simp [boxL]))
      dsimp only at this
      rw [o_sub, er] at this; grind
    · have := o_le.mpr (k (c.1 + isq (far c p).toNat, c.2 + isq (far c p).toNat) (by simp [boxL]))
      dsimp only at this
      rw [o_add, er] at this; grind
    · have := o_le.mpr (k (c.1 - isq (far c p).toNat, c.2 - isq (far c p).toNat) (by simp [boxL]))
      dsimp only at this
      rw [o_sub, er] at this; grind
theorem round_box {T : Th} (hT : GoodTh T) {c f l : P2} {r : Int} (r0 : 0 < r) (hf : Fc.round c r f l ∈ facesL T) : (c.1 - r, c.2 - r) ∈ boxL T ∧ (c.1 + r, c.2 + r) ∈ boxL T := by
  cases T with
  | spot p =>
    simp only [facesL, List.mem_cons, List.not_mem_nil, or_false, Fc.round.injEq] at hf
    omega
  | cord p q =>
    simp only [facesL, List.mem_cons, List.not_mem_nil, or_false, Fc.round.injEq, reduceCtorEq, false_or] at hf
    omega
  | bow k p q =>
    simp only [facesL, List.mem_cons, List.not_mem_nil, or_false, Fc.round.injEq, reduceCtorEq, false_or] at hf
    rcases hf with ⟨rfl, rfl, _, _⟩ | h | h
    · simp [boxL]
    · omega
    · omega
def sepd (A B : Th) : Prop := ∃ h l : Int, h < l ∧ (((∀ p ∈ boxL A, p.1 ≤ h) ∧ ∀ p ∈ boxL B, l ≤ p.1) ∨ ((∀ p ∈ boxL A, p.2 ≤ h) ∧ ∀ p ∈ boxL B, l ≤ p.2))
theorem out_r {z c r : Real} (r0 : 0 < r) (h : r < z - c ∨ r < c - z) : r * r < (z - c) * (z - c) := by
  rcases h with h | h
  · have := Real.mul_pos (show 0 < z - c - r by grind) (show 0 < z - c + r by grind)
    grind
  · have := Real.mul_pos (show 0 < c - z - r by grind) (show 0 < c - z + r by grind)
    grind
theorem sep_all {A B : Th} (hA : GoodTh A) (hB : GoodTh B) (h : sepd A B) : (∀ x y, InS A x y → ¬ InS B x y) ∧ beyond A B ∧ beyond B A := by
  obtain ⟨hi, lo, hl, h⟩ := h
  have L : o hi < o lo := by
    have l1 := o_pos (show (0 : Int) < lo - hi by omega)
    rw [o_sub] at l1
    grind
  refine ⟨fun x y h1 h2 => ?_, fun c r f l r0 hf z w hz => ?_, fun c r f l r0 hf z w hz => ?_⟩
  · have b1 := in_box hA h1 hi hi
    have b2 := in_box hB h2 lo lo
    rcases h with ⟨u, v⟩ | ⟨u, v⟩
    · have := b1.1 u
      have := b2.2.1 v
      grind
    · have := b1.2.2.1 u
      have := b2.2.2.2 v
      grind
  · have b := in_box hB hz lo lo
    have m := (round_box hA r0 hf).2
    have R := o_pos r0
    have s1 := Real.sq_nn (z - o c.1)
    have s2 := Real.sq_nn (w - o c.2)
    rcases h with ⟨u, v⟩ | ⟨u, v⟩
    · have k1 := b.2.1 v
      have k2 := o_le.mpr (u _ m)
      dsimp only at k2
      rw [o_add] at k2
      have := out_r (z := z) (c := o c.1) R (.inl (by grind))
      grind
    · have k1 := b.2.2.2 v
      have k2 := o_le.mpr (u _ m)
      dsimp only at k2
      rw [o_add] at k2
      have := out_r (z := w) (c := o c.2) R (.inl (by grind))
      grind
  · have b := in_box hA hz hi hi
    have m := (round_box hB r0 hf).1
    have R := o_pos r0
    have s1 := Real.sq_nn (z - o c.1)
    have s2 := Real.sq_nn (w - o c.2)
    rcases h with ⟨u, v⟩ | ⟨u, v⟩
    · have k1 := b.1 u
      have k2 := o_le.mpr (v _ m)
      dsimp only at k2
      rw [o_sub] at k2
      have := out_r (z := z) (c := o c.1) R (.inr (by grind))
      grind
    · have k1 := b.2.2.1 u
      have k2 := o_le.mpr (v _ m)
      dsimp only at k2
      rw [o_sub] at k2
      have := out_r (z := w) (c := o c.2) R (.inr (by grind))
      grind
end Rs

/-! the law's comparing of roots, in signs -/
namespace Rs
open Lb Ld Rl
theorem sg_of (q : Rat) : sg (Real.of q) = q.num.sign := by
  rcases rat_lt_or_le 0 q with h | h
  · rw [sg_pos (of_pos h), Rl.num_sign.1 h]
  · by_cases z : q = 0
    · rw [z, sg_zero Real.of_zero]; rfl
    · have h' : q < 0 := by grind
      rw [Rl.num_sign.2 h', sg_neg (by
        have := of_pos (show 0 < -q by grind)
        rw [Real.of_neg] at this
        grind)]
def sideS (t b h : Rat) : Int := if h = 0 ∨ b.num.sign = 0 ∨ t.num.sign = b.num.sign then t.num.sign else if t.num.sign = 0 then b.num.sign else t.num.sign * (t * t + -(b * b * h)).num.sign
theorem side_law {t b h : Rat} (h0 : 0 ≤ h) : sideS t b h = sg (Real.of t + Real.of b * rtq h) := by
  unfold sideS
  by_cases z : h = 0
  · rw [if_pos (.inl z), z, rtq_zero, ← sg_of]
    congr 1
    grind
  have hp : 0 < h := by grind
  have rp := rtq_pos hp
  have rr := rtq_sq h0
  have er : sg (Real.of (t * t + -(b * b * h))) = sg ((Real.of t + Real.of b * rtq h) * (Real.of t - Real.of b * rtq h)) := by
    congr 1
    rw [Real.of_add, Real.of_neg, Real.of_mul, Real.of_mul, Real.of_mul, ← rr]
    grind
  rw [← sg_of, ← sg_of, ← sg_of, er]
  generalize Real.of t = T at *
  generalize Real.of b = B at *
  generalize rtq h = r at *
  rcases sg_cases B with ⟨hb, eb⟩ | ⟨hb, eb⟩ | ⟨hb, eb⟩
  · have m := Real.mul_pos hb rp
    rw [eb]
    rcases sg_cases T with ⟨ht, et⟩ | ⟨ht, et⟩ | ⟨ht, et⟩
    · rw [et, if_pos (.inr (.inr rfl)), sg_pos (by grind)]
    · rw [et, if_neg (by simp [z]), if_pos rfl, sg_pos (by grind)]
    · rw [et, if_neg (by simp [z]), if_neg (by decide), show (T + B * r) * (T - B * r) = (B * r - T) * (-(T + B * r)) by grind, sg_mul (by grind), sg_flip]
      omega
  · rw [eb, if_pos (.inr (.inl rfl)), hb]
    congr 1
    grind
  · have m := Real.mul_pos (show 0 < -B by grind) rp
    rw [eb]
    rcases sg_cases T with ⟨ht, et⟩ | ⟨ht, et⟩ | ⟨ht, et⟩
    · rw [et, if_neg (by simp [z]), if_neg (by decide), show (T + B * r) * (T - B * r) = (T - B * r) * (T + B * r) by grind, sg_mul (by grind)]
      omega
    · rw [et, if_neg (by simp [z]), if_pos rfl, sg_neg (by grind)]
    · rw [et, if_pos (.inr (.inr rfl)), sg_neg (by grind)]
def cmpL (x y : Rt) : Int := if sideS (x.b + -y.b) (x.s : Int) x.q ≠ y.s then (if y.s < sideS (x.b + -y.b) (x.s : Int) x.q then 1 else -1) else if sideS (x.b + -y.b) (x.s : Int) x.q = 0 then 0 else sideS (x.b + -y.b) (x.s : Int) x.q * sideS ((x.b + -y.b) * (x.b + -y.b) + x.q + -y.q) ((x.b + -y.b) * ((2 * x.s : Int) : Rat)) x.q
theorem cmpL_law {x y : Rt} (hx : Ok x) (hy : Ok y) : cmpL x y = sg (val x - val y) := by
  unfold cmpL
  rw [side_law hx.q0, side_law hx.q0]
  have e : Real.of (x.b + -y.b) + Real.of (x.s : Int) * rtq x.q = val x - Real.of y.b := by
    unfold val
    simp only [Real.of_add, Real.of_neg]
    grind
  have s2 := s_sq hx
  have two : Real.of ((2 : Int) : Rat) = 2 := rfl
  have e2 : Real.of ((x.b + -y.b) * (x.b + -y.b) + x.q + -y.q) + Real.of ((x.b + -y.b) * ((2 * x.s : Int) : Rat)) * rtq x.q = (val x - Real.of y.b) * (val x - Real.of y.b) - Real.of y.q := by
    rw [← e]
    simp only [Real.of_add, Real.of_mul, Real.of_neg, of_int_mul, two]
    grind
  have ey : val y = Real.of y.b + Real.of (y.s : Rat) * rtq y.q := rfl
  have dv : val x - val y = (val x - Real.of y.b) - Real.of (y.s : Rat) * rtq y.q := by rw [ey]; grind
  rw [e2, dv, e, ← rtq_sq hy.q0]
  generalize val x - Real.of y.b = n
  by_cases h0 : y.s = 0
  · rw [h0, of_int0, show n - 0 * rtq y.q = n by grind]
    rcases sg_cases n with ⟨h, es⟩ | ⟨h, es⟩ | ⟨h, es⟩ <;> rw [es] <;> simp
  · have rp := rtq_pos (hy.p h0)
    generalize rtq y.q = r at *
    rcases sg_cases n with ⟨h, es⟩ | ⟨h, es⟩ | ⟨h, es⟩ <;> rw [es] <;> rcases hy.s with k | k | k
    · rw [k, if_pos (by decide), if_pos (by decide), of_intm1, sg_pos (by grind)]
    · exact absurd k h0
    · rw [k, if_neg (by decide), if_neg (by decide), of_int1, show n * n - r * r = (n + r) * (n - 1 * r) by grind, sg_mul (by grind)]
      omega
    · rw [k, if_pos (by decide), if_pos (by decide), of_intm1, sg_pos (by grind)]
    · exact absurd k h0
    · rw [k, if_pos (by decide), if_neg (by decide), of_int1, sg_neg (by grind)]
    · rw [k, if_neg (by decide), if_neg (by decide), of_intm1, show n * n - r * r = (r - n) * (-(n - -1 * r)) by grind, sg_mul (by grind), sg_flip]
      omega
    · exact absurd k h0
    · rw [k, if_pos (by decide), if_neg (by decide), of_int1, sg_neg (by grind)]
end Rs

/-! min(xs), max(xs) of a list of whole numbers -/
namespace Bl
open PySem PySem.Spec PyProof.Rows L2
def bMaxL : GB := fun ds S Q => match ds with
  | [.lst xs] => match intsOf xs with
    | some ns => 0 < ns.length ∧ ∀ m, m ∈ ns → (∀ y, y ∈ ns → y ≤ m) → Q (.int m) S
    | none => False
  | _ => False
def bMinL : GB := fun ds S Q => match ds with
  | [.lst xs] => match intsOf xs with
    | some ns => 0 < ns.length ∧ ∀ m, m ∈ ns → (∀ y, y ∈ ns → m ≤ y) → Q (.int m) S
    | none => False
  | _ => False
section
variable {X : Cx}
theorem cd_maxL (hc : X.calm = true) : CallD X (.builtin "max") bMaxL := by
  refine ⟨by
    intro ds S Q Q' h q
    unfold bMaxL at q ⊢
    split at q <;> first | exact q.elim | skip
    (try dsimp only at q ⊢)
    split at q <;> first | exact q.elim | exact ⟨q.1, fun m a b => h _ _ (q.2 m a b)⟩, fun pins s σ H xs us Q I rv h => ?_⟩
  obtain ⟨Z, S, ds, rs, r, q⟩ := h
  unfold bMaxL at q
  split at q <;> first | exact q.elim | skip
  obtain ⟨v, rfl, r1⟩ := r.one
  obtain ⟨a, vs, rfl, hs, hl⟩ := r1.sqL
  split at q <;> first | exact q.elim | skip
  rename_i bs e
  exact cr_max hc pins s σ H _ us Q I rv ⟨a, bs, rfl, by rw [← ints_rp hl e]; exact hs, q.1, fun m h1 h2 => q.2 m h1 h2 _ H (.refl rs) (.int _)⟩
theorem cd_minL (hc : X.calm = true) : CallD X (.builtin "min") bMinL := by
  refine ⟨by
    intro ds S Q Q' h q
    unfold bMinL at q ⊢
    split at q <;> first | exact q.elim | skip
    (try dsimp only at q ⊢)
    split at q <;> first | exact q.elim | exact ⟨q.1, fun m a b => h _ _ (q.2 m a b)⟩, fun pins s σ H xs us Q I rv h => ?_⟩
  obtain ⟨Z, S, ds, rs, r, q⟩ := h
  unfold bMinL at q
  split at q <;> first | exact q.elim | skip
  obtain ⟨v, rfl, r1⟩ := r.one
  obtain ⟨a, vs, rfl, hs, hl⟩ := r1.sqL
  split at q <;> first | exact q.elim | skip
  rename_i bs e
  exact cr_min hc pins s σ H _ us Q I rv ⟨a, bs, rfl, by rw [← ints_rp hl e]; exact hs, q.1, fun m h1 h2 => q.2 m h1 h2 _ H (.refl rs) (.int _)⟩
end
end Bl

/-! list + list, handed to a name whose list is grown -/
namespace Bl
open PySem PySem.Spec PyProof.Rows L2
def fCatG : F2 := fun x y S Q => match x, y with
  | .lst a, .lst b => a.length + b.length ≤ sizeLine ∧ ∀ p, S p = none → Q (.ref p) (sup S p (a ++ b))
  | .ref r, .lst b => match S r with
    | some a => a.length + b.length ≤ sizeLine ∧ ∀ p, S p = none → Q (.ref p) (sup S p (a ++ b))
    | none => False
  | _, _ => False
theorem moCatG : MoF2 fCatG := fun x y S Q Q' h q => by
  unfold fCatG at q ⊢
  split at q
  · exact ⟨q.1, fun p n => h _ _ (q.2 p n)⟩
  · split at q
    · exact ⟨q.1, fun p n => h _ _ (q.2 p n)⟩
    · exact q.elim
  · exact q.elim
theorem opD_catG {X : Cx} : OpD X (binaryOp .Add) fCatG := by
  refine ⟨moCatG, fun pins s σ H x y v u Q Z S dx dy I rx ry rs r1 r2 h => ?_⟩
  unfold fCatG at h
  split at h
  · obtain ⟨a, vs, rfl, h1, p1⟩ := lst_sq r1
    obtain ⟨b, ws, rfl, h2, p2⟩ := lst_sq r2
    refine op_catL pins s σ H _ _ v u Q I rx ry ⟨_, _, _, _, rfl, rfl, h1, h2, by rw [← p1.length, ← p2.length]; exact h.1, fun p hp => ?_⟩
    exact h.2 p (rs.free hp) _ _ (Rp.newR rs hp (p1.append p2)) (.ref p)
  · rename_i r b
    split at h <;> first | exact h.elim | skip
    rename_i a e
    cases r1
    obtain ⟨vs, hl, p1⟩ := rs.at_ r a e
    obtain ⟨b', ws, rfl, h2, p2⟩ := lst_sq r2
    refine op_catL pins s σ H _ _ v u Q I rx ry ⟨_, _, _, _, rfl, rfl, SqL.of hl, h2, by rw [← p1.length, ← p2.length]; exact h.1, fun p hp => ?_⟩
    exact h.2 p (rs.free hp) _ _ (Rp.newR rs hp (p1.append p2)) (.ref p)
  · exact h.elim
end Bl

namespace Ld.Lt
open PySem PySem.Spec PyProof.Rows L2 Bl Lb Ld
def t_l_is_on : TSd := sSeq (sIf (tbl (dTwo (dTwo (vr 0) (cn (.int 0)) fIx) (cn (.str "spot")) fEq)) (sRet (dTwo (dSl (dCall m_l_steps 2 0 (fun ds _ => ds) (aCons (dTwo (vr 0) (cn (.int 1)) fIx) (aCons (vr 1) (aNil))) aNil) (oNone) (oSome (cn (.int 2)))) (dTup (aCons (cn (.int 0)) (aCons (cn (.int 0)) (aNil)))) fEq)) (sNx)) (sSeq (sIf (tbl (dTwo (dTwo (vr 0) (cn (.int 0)) fIx) (cn (.str "cord")) fEq)) (sRet (dTwo (dTwo (dCall m_l_by_cord 3 0 (fun ds _ => ds) (aCons (dTwo (vr 0) (cn (.int 1)) fIx) (aCons (dTwo (vr 0) (cn (.int 2)) fIx) (aCons (vr 1) (aNil)))) aNil) (cn (.int 0)) fIx) (cn (.int 0)) fEq)) (sNx)) (sSeq (sAsg (dCall m_l_steps 2 0 (fun ds _ => ds) (aCons (dTwo (vr 0) (cn (.int 1)) fIx) (aCons (vr 1) (aNil))) aNil) (.tp (.nm 2 :: .nm 3 :: .nm 4 :: []))) (sSeq (sPar [5, 6] (aCons (dCall m_l_minus 2 0 (fun ds _ => ds) (aCons (dTwo (vr 0) (cn (.int 2)) fIx) (aCons (dTwo (vr 0) (cn (.int 1)) fIx) (aNil))) aNil) (aCons (dCall m_l_minus 2 0 (fun ds _ => ds) (aCons (dTwo (vr 0) (cn (.int 3)) fIx) (aCons (dTwo (vr 0) (cn (.int 1)) fIx) (aNil))) aNil) (aNil)))) (sSeq (sAsg (dCall m_l_cross 2 0 (fun ds _ => ds) (aCons (dCall m_l_minus 2 0 (fun ds _ => ds) (aCons (vr 6) (aCons (vr 5) (aNil))) aNil) (aCons (dTup (aCons (dTwo (vr 2) (dTwo (dTwo (vr 5) (cn (.int 0)) fIx) (vr 4) fMul) fSub) (aCons (dTwo (vr 3) (dTwo (dTwo (vr 5) (cn (.int 1)) fIx) (vr 4) fMul) fSub) (aNil)))) (aNil))) aNil) (.nm 7)) (sRet (eIf (tbl (dTwo (dTwo (dTwo (vr 2) (vr 2) fMul) (dTwo (vr 3) (vr 3) fMul) fAdd) (dTwo (dTwo (dCall m_l_dot 2 0 (fun ds _ => ds) (aCons (vr 5) (aCons (vr 5) (aNil))) aNil) (vr 4) fMul) (vr 4) fMul) fLe)) (dTwo (vr 7) (cn (.int 0)) fLe) (cn (.bl false))))))))
def m_l_is_on : TFd := fnD 2 8 t_l_is_on
theorem e_l_is_on {a0 a1 : D} {S : Sto} {Q : DK} {E : EK} (k : t_l_is_on [some a0, some a1, none, none, none, none, none, none] S ⟨fun _ S1 => Q .non S1, Q, fun _ _ => False, fun _ _ => False, fun x _ S1 => E x S1⟩) : m_l_is_on [a0, a1] S Q E := ⟨rfl, k⟩
def t_l_side : TSd := sSeq (sAsg (dTwo (dB bInt (aCons (dTwo (dTwo (vr 0) (cn (.int 0)) fIx) (cn (.int 0)) fGt) (aNil))) (dB bInt (aCons (dTwo (dTwo (vr 0) (cn (.int 0)) fIx) (cn (.int 0)) fLt) (aNil))) fSub) (.nm 3)) (sSeq (sAsg (dTwo (dB bInt (aCons (dTwo (dTwo (vr 1) (cn (.int 0)) fIx) (cn (.int 0)) fGt) (aNil))) (dB bInt (aCons (dTwo (dTwo (vr 1) (cn (.int 0)) fIx) (cn (.int 0)) fLt) (aNil))) fSub) (.nm 4)) (sSeq (sIf (tOrD (tbl (dTwo (dTwo (vr 2) (cn (.int 0)) fIx) (cn (.int 0)) fEq)) (tOrD (tbl (dTwo (vr 4) (cn (.int 0)) fEq)) (tbl (dTwo (vr 3) (vr 4) fEq)))) (sRet (vr 3)) (sNx)) (sSeq (sIf (tbl (dTwo (vr 3) (cn (.int 0)) fEq)) (sRet (vr 4)) (sNx)) (sSeq (sAsg (dCall m_l_sum 2 0 (fun ds _ => ds) (aCons (dCall m_l_product 2 0 (fun ds _ => ds) (aCons (vr 0) (aCons (vr 0) (aNil))) aNil) (aCons (dCall m_l_contrary 1 0 (fun ds _ => ds) (aCons (dCall m_l_product 2 0 (fun ds _ => ds) (aCons (dCall m_l_product 2 0 (fun ds _ => ds) (aCons (vr 1) (aCons (vr 1) (aNil))) aNil) (aCons (vr 2) (aNil))) aNil) (aNil)) aNil) (aNil))) aNil) (.nm 5)) (sRet (dTwo (vr 3) (dTwo (dB bInt (aCons (dTwo (dTwo (vr 5) (cn (.int 0)) fIx) (cn (.int 0)) fGt) (aNil))) (dB bInt (aCons (dTwo (dTwo (vr 5) (cn (.int 0)) fIx) (cn (.int 0)) fLt) (aNil))) fSub) fMul))))))
def m_l_side : TFd := fnD 3 6 t_l_side
theorem e_l_side {a0 a1 a2 : D} {S : Sto} {Q : DK} {E : EK} (k : t_l_side [some a0, some a1, some a2, none, none, none] S ⟨fun _ S1 => Q .non S1, Q, fun _ _ => False, fun _ _ => False, fun x _ S1 => E x S1⟩) : m_l_side [a0, a1, a2] S Q E := ⟨rfl, k⟩
def t_l_compare : TSd := sSeq (sAsg (dCall m_l_sum 2 0 (fun ds _ => ds) (aCons (dTwo (vr 0) (cn (.int 0)) fIx) (aCons (dCall m_l_contrary 1 0 (fun ds _ => ds) (aCons (dTwo (vr 1) (cn (.int 0)) fIx) (aNil)) aNil) (aNil))) aNil) (.nm 2)) (sSeq (sAsg (dCall m_l_side 3 0 (fun ds _ => ds) (aCons (vr 2) (aCons (dTup (aCons (dTwo (vr 0) (cn (.int 1)) fIx) (aCons (cn (.int 1)) (aNil)))) (aCons (dTwo (vr 0) (cn (.int 2)) fIx) (aNil)))) aNil) (.nm 3)) (sSeq (sIf (tbl (dTwo (vr 3) (dTwo (vr 1) (cn (.int 1)) fIx) fNe)) (sRet (eIf (tbl (dTwo (vr 3) (dTwo (vr 1) (cn (.int 1)) fIx) fGt)) (cn (.int 1)) (dNeg (cn (.int 1))))) (sNx)) (sSeq (sIf (tbl (dTwo (vr 3) (cn (.int 0)) fEq)) (sRet (cn (.int 0))) (sNx)) (sSeq (sAsg (dCall m_l_sum 2 0 (fun ds _ => ds) (aCons (dCall m_l_sum 2 0 (fun ds _ => ds) (aCons (dCall m_l_product 2 0 (fun ds _ => ds) (aCons (vr 2) (aCons (vr 2) (aNil))) aNil) (aCons (dTwo (vr 0) (cn (.int 2)) fIx) (aNil))) aNil) (aCons (dCall m_l_contrary 1 0 (fun ds _ => ds) (aCons (dTwo (vr 1) (cn (.int 2)) fIx) (aNil)) aNil) (aNil))) aNil) (.nm 4)) (sRet (dTwo (vr 3) (dCall m_l_side 3 0 (fun ds _ => ds) (aCons (vr 4) (aCons (dCall m_l_product 2 0 (fun ds _ => ds) (aCons (vr 2) (aCons (dTup (aCons (dTwo (cn (.int 2)) (dTwo (vr 0) (cn (.int 1)) fIx) fMul) (aCons (cn (.int 1)) (aNil)))) (aNil))) aNil) (aCons (dTwo (vr 0) (cn (.int 2)) fIx) (aNil)))) aNil) fMul))))))
def m_l_compare : TFd := fnD 2 5 t_l_compare
theorem e_l_compare {a0 a1 : D} {S : Sto} {Q : DK} {E : EK} (k : t_l_compare [some a0, some a1, none, none, none] S ⟨fun _ S1 => Q .non S1, Q, fun _ _ => False, fun _ _ => False, fun x _ S1 => E x S1⟩) : m_l_compare [a0, a1] S Q E := ⟨rfl, k⟩
def t_l_distance : TSd := sSeq (sIf (ttr (dCall m_l_is_on 2 0 (fun ds _ => ds) (aCons (vr 0) (aCons (vr 1) (aNil))) aNil)) (sRet (dTup (aCons (dTup (aCons (cn (.int 0)) (aCons (cn (.int 1)) (aNil)))) (aCons (cn (.int 0)) (aCons (dTup (aCons (cn (.int 0)) (aCons (cn (.int 1)) (aNil)))) (aNil)))))) (sNx)) (sSeq (sIf (tbl (dTwo (dTwo (vr 0) (cn (.int 0)) fIx) (cn (.str "spot")) fEq)) (sSeq (sAsg (dCall m_l_steps 2 0 (fun ds _ => ds) (aCons (dTwo (vr 0) (cn (.int 1)) fIx) (aCons (vr 1) (aNil))) aNil) (.tp (.nm 2 :: .nm 3 :: .nm 4 :: []))) (sRet (dCall m_l_root 2 0 (fun ds _ => ds) (aCons (cn (.int 0)) (aCons (dCall m_l_low 2 0 (fun ds _ => ds) (aCons (dTwo (dTwo (vr 2) (vr 2) fMul) (dTwo (vr 3) (vr 3) fMul) fAdd) (aCons (dTwo (vr 4) (vr 4) fMul) (aNil))) aNil) (aNil))) aNil))) (sNx)) (sSeq (sIf (tbl (dTwo (dTwo (vr 0) (cn (.int 0)) fIx) (cn (.str "cord")) fEq)) (sRet (dCall m_l_root 2 0 (fun ds _ => ds) (aCons (cn (.int 0)) (aCons (dCall m_l_by_cord 3 0 (fun ds _ => ds) (aCons (dTwo (vr 0) (cn (.int 1)) fIx) (aCons (dTwo (vr 0) (cn (.int 2)) fIx) (aCons (vr 1) (aNil)))) aNil) (aNil))) aNil)) (sNx)) (sSeq (sAsg (dCall m_l_steps 2 0 (fun ds _ => ds) (aCons (dTwo (vr 0) (cn (.int 1)) fIx) (aCons (vr 1) (aNil))) aNil) (.tp (.nm 2 :: .nm 3 :: .nm 4 :: []))) (sSeq (sPar [5, 6] (aCons (dCall m_l_minus 2 0 (fun ds _ => ds) (aCons (dTwo (vr 0) (cn (.int 2)) fIx) (aCons (dTwo (vr 0) (cn (.int 1)) fIx) (aNil))) aNil) (aCons (dCall m_l_minus 2 0 (fun ds _ => ds) (aCons (dTwo (vr 0) (cn (.int 3)) fIx) (aCons (dTwo (vr 0) (cn (.int 1)) fIx) (aNil))) aNil) (aNil)))) (sSeq (sIf (tAndD (tbl (dTwo (dCall m_l_cross 2 0 (fun ds _ => ds) (aCons (vr 5) (aCons (dTup (aCons (vr 2) (aCons (vr 3) (aNil)))) (aNil))) aNil) (cn (.int 0)) fGe)) (tAndD (tbl (dTwo (dCall m_l_cross 2 0 (fun ds _ => ds) (aCons (dTup (aCons (vr 2) (aCons (vr 3) (aNil)))) (aCons (vr 6) (aNil))) aNil) (cn (.int 0)) fGe)) (tbl (dTwo (dTwo (dTwo (vr 2) (vr 2) fMul) (dTwo (vr 3) (vr 3) fMul) fAdd) (dTwo (dTwo (dCall m_l_dot 2 0 (fun ds _ => ds) (aCons (vr 5) (aCons (vr 5) (aNil))) aNil) (vr 4) fMul) (vr 4) fMul) fGt)))) (sRet (dCall m_l_root 2 0 (fun ds _ => ds) (aCons (dTwo (cn (.int 0)) (dCall m_l_rooted 1 0 (fun ds _ => ds) (aCons (dCall m_l_dot 2 0 (fun ds _ => ds) (aCons (vr 5) (aCons (vr 5) (aNil))) aNil) (aNil)) aNil) fSub) (aCons (dCall m_l_low 2 0 (fun ds _ => ds) (aCons (dTwo (dTwo (vr 2) (vr 2) fMul) (dTwo (vr 3) (vr 3) fMul) fAdd) (aCons (dTwo (vr 4) (vr 4) fMul) (aNil))) aNil) (aNil))) aNil)) (sNx)) (sRet (dCall m_l_root 2 0 (fun ds _ => ds) (aCons (cn (.int 0)) (aCons (dCall m_l_by_cord 3 0 (fun ds _ => ds) (aCons (dTwo (vr 0) (cn (.int 2)) fIx) (aCons (dTwo (vr 0) (cn (.int 3)) fIx) (aCons (vr 1) (aNil)))) aNil) (aNil))) aNil)))))))
def m_l_distance : TFd := fnD 2 7 t_l_distance
theorem e_l_distance {a0 a1 : D} {S : Sto} {Q : DK} {E : EK} (k : t_l_distance [some a0, some a1, none, none, none, none, none] S ⟨fun _ S1 => Q .non S1, Q, fun _ _ => False, fun _ _ => False, fun x _ S1 => E x S1⟩) : m_l_distance [a0, a1] S Q E := ⟨rfl, k⟩
def t_l_in_arc : TSd := sSeq (sPar [2, 3] (aCons (dCall m_l_minus 2 0 (fun ds _ => ds) (aCons (dTwo (vr 0) (cn (.int 2)) fIx) (aCons (dTwo (vr 0) (cn (.int 1)) fIx) (aNil))) aNil) (aCons (dCall m_l_minus 2 0 (fun ds _ => ds) (aCons (dTwo (vr 0) (cn (.int 3)) fIx) (aCons (dTwo (vr 0) (cn (.int 1)) fIx) (aNil))) aNil) (aNil)))) (sRet (eIf (tbl (dTwo (dCall m_l_cross 2 0 (fun ds _ => ds) (aCons (vr 2) (aCons (vr 1) (aNil))) aNil) (cn (.int 0)) fGe)) (dTwo (dCall m_l_cross 2 0 (fun ds _ => ds) (aCons (vr 1) (aCons (vr 3) (aNil))) aNil) (cn (.int 0)) fGe) (cn (.bl false))))
def m_l_in_arc : TFd := fnD 2 4 t_l_in_arc
theorem e_l_in_arc {a0 a1 : D} {S : Sto} {Q : DK} {E : EK} (k : t_l_in_arc [some a0, some a1, none, none] S ⟨fun _ S1 => Q .non S1, Q, fun _ _ => False, fun _ _ => False, fun x _ S1 => E x S1⟩) : m_l_in_arc [a0, a1] S Q E := ⟨rfl, k⟩
def t_l_reach_of : TSd := sSeq (sAsg (dTup (aCons (dTup (aCons (dTwo (vr 1) (cn (.int 0)) fIx) (aCons (cn (.int 1)) (aNil)))) (aCons (dTup (aCons (dTwo (vr 1) (cn (.int 1)) fIx) (aCons (cn (.int 1)) (aNil)))) (aNil)))) (.nm 2)) (sSeq (sAsg (dCall m_l_distance 2 0 (fun ds _ => ds) (aCons (vr 0) (aCons (vr 2) (aNil))) aNil) (.nm 3)) (sSeq (sIf (tbl (dTwo (dTwo (vr 0) (cn (.int 0)) fIx) (cn (.str "spot")) fEq)) (sRet (dTup (aCons (vr 3) (aCons (dCall m_l_minus 2 0 (fun ds _ => ds) (aCons (dTwo (vr 0) (cn (.int 1)) fIx) (aCons (vr 1) (aNil))) aNil) (aNil))))) (sNx)) (sSeq (sPar [4, 5] (aCons (dTwo (vr 0) (dNeg (cn (.int 2))) fIx) (aCons (dTwo (vr 0) (dNeg (cn (.int 1))) fIx) (aNil)))) (sSeq (sIf (tbl (dTwo (dTwo (vr 0) (cn (.int 0)) fIx) (cn (.str "bow")) fEq)) (sSeq (sPar [6, 7] (aCons (dCall m_l_minus 2 0 (fun ds _ => ds) (aCons (vr 1) (aCons (dTwo (vr 0) (cn (.int 1)) fIx) (aNil))) aNil) (aCons (dCall m_l_minus 2 0 (fun ds _ => ds) (aCons (vr 4) (aCons (dTwo (vr 0) (cn (.int 1)) fIx) (aNil))) aNil) (aNil)))) (sIf (tAndD (ttr (dCall m_l_in_arc 2 0 (fun ds _ => ds) (aCons (vr 0) (aCons (vr 6) (aNil))) aNil)) (tbl (dTwo (dCall m_l_dot 2 0 (fun ds _ => ds) (aCons (vr 6) (aCons (vr 6) (aNil))) aNil) (dCall m_l_dot 2 0 (fun ds _ => ds) (aCons (vr 7) (aCons (vr 7) (aNil))) aNil) fGt))) (sRet (dTup (aCons (vr 3) (aCons (dTup (aCons (dTwo (cn (.int 0)) (dTwo (vr 6) (cn (.int 0)) fIx) fSub) (aCons (dTwo (cn (.int 0)) (dTwo (vr 6) (cn (.int 1)) fIx) fSub) (aNil)))) (aNil))))) (sNx))) (sNx)) (sSeq (sPar [8, 9] (aCons (dCall m_l_minus 2 0 (fun ds _ => ds) (aCons (vr 5) (aCons (vr 4) (aNil))) aNil) (aCons (dCall m_l_minus 2 0 (fun ds _ => ds) (aCons (vr 1) (aCons (vr 4) (aNil))) aNil) (aNil)))) (sSeq (sIf (tbl (dTwo (dCall m_l_dot 2 0 (fun ds _ => ds) (aCons (vr 9) (aCons (vr 8) (aNil))) aNil) (cn (.int 0)) fLe)) (sRet (dTup (aCons (vr 3) (aCons (dTup (aCons (dTwo (cn (.int 0)) (dTwo (vr 9) (cn (.int 0)) fIx) fSub) (aCons (dTwo (cn (.int 0)) (dTwo (vr 9) (cn (.int 1)) fIx) fSub) (aNil)))) (aNil))))) (sNx)) (sSeq (sIf (tbl (dTwo (dCall m_l_dot 2 0 (fun ds _ => ds) (aCons (vr 9) (aCons (vr 8) (aNil))) aNil) (dCall m_l_dot 2 0 (fun ds _ => ds) (aCons (vr 8) (aCons (vr 8) (aNil))) aNil) fGe)) (sRet (dTup (aCons (vr 3) (aCons (dCall m_l_minus 2 0 (fun ds _ => ds) (aCons (vr 5) (aCons (vr 1) (aNil))) aNil) (aNil))))) (sNx)) (sSeq (sAsg (dCall m_l_cross 2 0 (fun ds _ => ds) (aCons (vr 8) (aCons (vr 9) (aNil))) aNil) (.nm 10)) (sRet (dTup (aCons (vr 3) (aCons (eIf (tbl (dTwo (vr 10) (cn (.int 0)) fGt)) (dTup (aCons (dTwo (vr 8) (cn (.int 1)) fIx) (aCons (dTwo (cn (.int 0)) (dTwo (vr 8) (cn (.int 0)) fIx) fSub) (aNil)))) (dTup (aCons (dTwo (cn (.int 0)) (dTwo (vr 8) (cn (.int 1)) fIx) fSub) (aCons (dTwo (vr 8) (cn (.int 0)) fIx) (aNil))))) (aNil)))))))))))))
def m_l_reach_of : TFd := fnD 2 11 t_l_reach_of
theorem e_l_reach_of {a0 a1 : D} {S : Sto} {Q : DK} {E : EK} (k : t_l_reach_of [some a0, some a1, none, none, none, none, none, none, none, none, none] S ⟨fun _ S1 => Q .non S1, Q, fun _ _ => False, fun _ _ => False, fun x _ S1 => E x S1⟩) : m_l_reach_of [a0, a1] S Q E := ⟨rfl, k⟩
def t_l_apart : TSd := sSeq (sAsg (dLstR (aNil)) (.nm 2)) (sSeq (sFor (iVal (dTup (aCons (dTup (aCons (vr 0) (aCons (vr 1) (aNil)))) (aCons (dTup (aCons (vr 1) (aCons (vr 0) (aNil)))) (aNil))))) (.tp (.nm 3 :: .nm 4 :: [])) (sSeq (sAsg (eIf (tbl (dTwo (dTwo (vr 3) (cn (.int 0)) fIx) (cn (.str "bow")) fNe)) (dSl (vr 3) (oSome (cn (.int 1))) (oNone)) (dSl (vr 3) (oSome (cn (.int 2))) (oNone))) (.nm 5)) (sSeq (sAsg (dTwo (vr 2) (dLc (iVal (vr 5)) (.nm 12) (tYesD) (dTwo (dCall m_l_reach_of 2 0 (fun ds _ => ds) (aCons (vr 4) (aCons (vr 12) (aNil))) aNil) (cn (.int 0)) fIx) [11, 12]) fCatG) (.nm 2)) (sIf (tbl (dTwo (dTwo (vr 3) (cn (.int 0)) fIx) (cn (.str "bow")) fEq)) (sSeq (sAsg (dCall m_l_reach_of 2 0 (fun ds _ => ds) (aCons (vr 4) (aCons (dTwo (vr 3) (cn (.int 1)) fIx) (aNil))) aNil) (.tp (.nm 6 :: .nm 7 :: []))) (sSeq (sAsg (dCall m_l_rooted 1 0 (fun ds _ => ds) (aCons (dCall m_l_dot 2 0 (fun ds _ => ds) (aCons (dCall m_l_minus 2 0 (fun ds _ => ds) (aCons (dTwo (vr 3) (cn (.int 2)) fIx) (aCons (dTwo (vr 3) (cn (.int 1)) fIx) (aNil))) aNil) (aCons (dCall m_l_minus 2 0 (fun ds _ => ds) (aCons (dTwo (vr 3) (cn (.int 2)) fIx) (aCons (dTwo (vr 3) (cn (.int 1)) fIx) (aNil))) aNil) (aNil))) aNil) (aNil)) aNil) (.nm 8)) (sIf (tAndD (tbl (dTwo (vr 7) (dTup (aCons (cn (.int 0)) (aCons (cn (.int 0)) (aNil)))) fNe)) (tNotD (ttr (dCall m_l_is_on 2 0 (fun ds _ => ds) (aCons (vr 4) (aCons (dTup (aCons (dTup (aCons (dTwo (dTwo (vr 3) (cn (.int 1)) fIx) (cn (.int 0)) fIx) (aCons (cn (.int 1)) (aNil)))) (aCons (dTup (aCons (dTwo (dTwo (vr 3) (cn (.int 1)) fIx) (cn (.int 1)) fIx) (aCons (cn (.int 1)) (aNil)))) (aNil)))) (aNil))) aNil)))) (sIf (ttr (dCall m_l_in_arc 2 0 (fun ds _ => ds) (aCons (vr 3) (aCons (vr 7) (aNil))) aNil)) (sDrop (dLm gApp (vr 2) (aCons (dTup (aCons (dCall m_l_sum 2 0 (fun ds _ => ds) (aCons (dTwo (vr 6) (cn (.int 0)) fIx) (aCons (dTup (aCons (dTwo (cn (.int 0)) (vr 8) fSub) (aCons (cn (.int 1)) (aNil)))) (aNil))) aNil) (aCons (dTwo (vr 6) (cn (.int 1)) fIx) (aCons (dTwo (vr 6) (cn (.int 2)) fIx) (aNil))))) (aNil)))) (sNx)) (sNx)))) (sNx))))) (sSeq (sFrz 2 (sAsg (dTwo (vr 2) (cn (.int 0)) fIx) (.nm 9))) (sSeq (sFor (iVal (vr 2)) (.nm 10) (sIf (tbl (dTwo (dCall m_l_compare 2 0 (fun ds _ => ds) (aCons (vr 10) (aCons (vr 9) (aNil))) aNil) (cn (.int 0)) fLt)) (sAsg (vr 10) (.nm 9)) (sNx))) (sRet (vr 9)))))
def m_l_apart : TFd := fnD 2 13 t_l_apart
theorem e_l_apart {a0 a1 : D} {S : Sto} {Q : DK} {E : EK} (k : t_l_apart [some a0, some a1, none, none, none, none, none, none, none, none, none, none, none] S ⟨fun _ S1 => Q .non S1, Q, fun _ _ => False, fun _ _ => False, fun x _ S1 => E x S1⟩) : m_l_apart [a0, a1] S Q E := ⟨rfl, k⟩
def t_l_moved : TSd := sRet (dTwo (dSl (vr 0) (oNone) (oSome (cn (.int 1)))) (dB bTup (aCons (dLc (iVal (dSl (vr 0) (oSome (cn (.int 1))) (oNone))) (.tp (.nm 4 :: .nm 5 :: [])) (tYesD) (dTup (aCons (dTwo (vr 4) (vr 1) fAdd) (aCons (dTwo (vr 5) (vr 2) fAdd) (aNil)))) [3, 4, 5]) (aNil))) fAdd)
def m_l_moved : TFd := fnD 3 6 t_l_moved
theorem e_l_moved {a0 a1 a2 : D} {S : Sto} {Q : DK} {E : EK} (k : t_l_moved [some a0, some a1, some a2, none, none, none] S ⟨fun _ S1 => Q .non S1, Q, fun _ _ => False, fun _ _ => False, fun x _ S1 => E x S1⟩) : m_l_moved [a0, a1, a2] S Q E := ⟨rfl, k⟩
def t_l_box : TSd := sSeq (sAsg (dB bLst (aCons (dSl (vr 0) (oSome (cn (.int 1))) (oNone)) (aNil))) (.nm 1)) (sSeq (sIf (tbl (dTwo (dTwo (vr 0) (cn (.int 0)) fIx) (cn (.str "bow")) fEq)) (sSeq (sAsg (dCall m_l_rooted 1 0 (fun ds _ => ds) (aCons (dCall m_l_dot 2 0 (fun ds _ => ds) (aCons (dCall m_l_minus 2 0 (fun ds _ => ds) (aCons (dTwo (vr 0) (cn (.int 2)) fIx) (aCons (dTwo (vr 0) (cn (.int 1)) fIx) (aNil))) aNil) (aCons (dCall m_l_minus 2 0 (fun ds _ => ds) (aCons (dTwo (vr 0) (cn (.int 2)) fIx) (aCons (dTwo (vr 0) (cn (.int 1)) fIx) (aNil))) aNil) (aNil))) aNil) (aNil)) aNil) (.nm 2)) (sAsg (dTwo (vr 1) (dLst (aCons (dTup (aCons (dTwo (dTwo (dTwo (vr 0) (cn (.int 1)) fIx) (cn (.int 0)) fIx) (vr 2) fSub) (aCons (dTwo (dTwo (dTwo (vr 0) (cn (.int 1)) fIx) (cn (.int 1)) fIx) (vr 2) fSub) (aNil)))) (aCons (dTup (aCons (dTwo (dTwo (dTwo (vr 0) (cn (.int 1)) fIx) (cn (.int 0)) fIx) (vr 2) fAdd) (aCons (dTwo (dTwo (dTwo (vr 0) (cn (.int 1)) fIx) (cn (.int 1)) fIx) (vr 2) fAdd) (aNil)))) (aNil)))) fCat) (.nm 1))) (sNx)) (sSeq (sPar [3, 4] (aCons (dLc (iVal (vr 1)) (.tp (.nm 6 :: .nm 7 :: [])) (tYesD) (vr 6) [5, 6, 7]) (aCons (dLc (iVal (vr 1)) (.tp (.nm 6 :: .nm 7 :: [])) (tYesD) (vr 7) [5, 6, 7]) (aNil)))) (sRet (dTup (aCons (dB bMinL (aCons (vr 3) (aNil))) (aCons (dB bMaxL (aCons (vr 3) (aNil))) (aCons (dB bMinL (aCons (vr 4) (aNil))) (aCons (dB bMaxL (aCons (vr 4) (aNil))) (aNil)))))))))
def m_l_box : TFd := fnD 1 8 t_l_box
theorem e_l_box {a0 : D} {S : Sto} {Q : DK} {E : EK} (k : t_l_box [some a0, none, none, none, none, none, none, none] S ⟨fun _ S1 => Q .non S1, Q, fun _ _ => False, fun _ _ => False, fun x _ S1 => E x S1⟩) : m_l_box [a0] S Q E := ⟨rfl, k⟩
def t_l_off : TSd := sSeq (sPar [3, 4] (aCons (dCall m_l_box 1 0 (fun ds _ => ds) (aCons (vr 1) (aNil)) aNil) (aCons (dCall m_l_box 1 0 (fun ds _ => ds) (aCons (vr 2) (aNil)) aNil) (aNil)))) (sSeq (sAsg (dTwo (dTwo (dTwo (dTwo (vr 3) (cn (.int 1)) fIx) (dTwo (vr 4) (cn (.int 0)) fIx) fSub) (cn (.int 1)) fAdd) (dCall m_l_take 2 0 (fun ds _ => ds) (aCons (vr 0) (aCons (dTwo (dLst (aCons (cn (.int 1)) (aCons (cn (.int 4)) (aCons (cn (.int 90)) (aNil))))) (dCall m_l_take 2 0 (fun ds _ => ds) (aCons (vr 0) (aCons (cn (.int 3)) (aNil))) aNil) fIx) (aNil))) aNil) fAdd) (.nm 5)) (sSeq (sAsg (dTwo (dTwo (dTwo (dTwo (vr 3) (cn (.int 3)) fIx) (dTwo (vr 4) (cn (.int 2)) fIx) fSub) (cn (.int 1)) fAdd) (dCall m_l_take 2 0 (fun ds _ => ds) (aCons (vr 0) (aCons (dTwo (dLst (aCons (cn (.int 1)) (aCons (cn (.int 4)) (aCons (cn (.int 90)) (aNil))))) (dCall m_l_take 2 0 (fun ds _ => ds) (aCons (vr 0) (aCons (cn (.int 3)) (aNil))) aNil) fIx) (aNil))) aNil) fAdd) (.nm 6)) (sSeq (sAsg (dCall m_l_take 2 0 (fun ds _ => ds) (aCons (vr 0) (aCons (cn (.int 3)) (aNil))) aNil) (.nm 7)) (sSeq (sIf (tbl (dTwo (vr 7) (cn (.int 0)) fEq)) (sAsg (dTwo (dCall m_l_take 2 0 (fun ds _ => ds) (aCons (vr 0) (aCons (cn (.int 60)) (aNil))) aNil) (cn (.int 30)) fSub) (.nm 6)) (sNx)) (sSeq (sIf (tbl (dTwo (vr 7) (cn (.int 1)) fEq)) (sAsg (dTwo (dCall m_l_take 2 0 (fun ds _ => ds) (aCons (vr 0) (aCons (cn (.int 60)) (aNil))) aNil) (cn (.int 30)) fSub) (.nm 5)) (sNx)) (sRet (dCall m_l_moved 3 0 (fun ds _ => ds) (aCons (vr 2) (aCons (vr 5) (aCons (vr 6) (aNil)))) aNil)))))))
def m_l_off : TFd := fnD 3 8 t_l_off
theorem e_l_off {a0 a1 a2 : D} {S : Sto} {Q : DK} {E : EK} (k : t_l_off [some a0, some a1, some a2, none, none, none, none, none] S ⟨fun _ S1 => Q .non S1, Q, fun _ _ => False, fun _ _ => False, fun x _ S1 => E x S1⟩) : m_l_off [a0, a1, a2] S Q E := ⟨rfl, k⟩
end Ld.Lt

namespace Ld.Lt
open PySem PySem.Spec PyProof.Rows L2 Bl Lb
theorem on_zero {P : R2} {p u : P2} {m : Nat} {B : Int} (hu : Stp m P p u B) : u = (0, 0) ↔ nrm (difR P p) = 0 := by
  have bb := Int.mul_pos hu.b0 hu.b0
  rw [← sc_zero bb hu.nrm]
  constructor
  · intro h
    rw [h]
    rfl
  · intro h
    by_cases z : u = (0, 0)
    · exact z
    · have := dot_pos z
      omega
theorem on_spot {p : P2} {P : R2} {n : Nat} {S : Sto} {Q : DK} {E : EK} (hp : Bd p) (hP : PR n P) (hn : n ≤ 150) (k : Q (.bl (decide (nrm (difR P p) = 0))) S) : m_l_is_on [thD (.spot p), plD P] S Q E := by
  unfold thD
  refine e_l_is_on ?_
  unfold t_l_is_on
  walk_at "bl"
  refine lsteps_spec hP hp (by omega) fun u B hu sB => ?_
  walk_at "bl"
  refine eq_pt (a := (u.1, u.2)) (b := (0, 0)) ?_
  have : decide ((u.1, u.2) = ((0, 0) : P2)) = decide (nrm (difR P p) = 0) := by
    rw [decide_eq_decide]
    exact on_zero hu
  rw [this]
  exact k
theorem on_cord {p q : P2} {P : R2} {n : Nat} {S : Sto} {Q : DK} {E : EK} (hp : Bd p) (hq : Bd q) (hne : p ≠ q) (hP : PR n P) (hn : n ≤ 150) (k : Q (.bl (decide (byR p q P = 0))) S) : m_l_is_on [thD (.cord p q), plD P] S Q E := by
  unfold thD
  refine e_l_is_on ?_
  unfold t_l_is_on
  walk_at "bl"
  refine by_cord_spec hP hp hq hne (by omega) fun sr1 => ?_
  walk_at "bl"
  have : decide ((byR p q P).num = 0) = decide (byR p q P = 0) := by
    rw [decide_eq_decide]
    exact Rat.num_eq_zero
  rw [this]
  exact k
theorem ldist_spot {p : P2} {P : R2} {n : Nat} {S : Sto} {Q : DK} {E : EK} (hp : Bd p) (hP : PR n P) (hn : n ≤ 150) (k : Q (rt (canon 0 1 (nrm (difR P p)))) S) : m_l_distance [thD (.spot p), plD P] S Q E := by
  refine e_l_distance ?_
  unfold t_l_distance
  walk_at "bl"
  refine on_spot hp hP hn ?_
  walk_at "bl"
  refine Go.ifD (fun h => ?_) fun h => ?_
  · walk_at "bl"
    rw [h, canon_zero] at k
    exact k
  unfold thD
  walk_at "bl"
  refine lsteps_spec hP hp (by omega) fun u B hu sB => ?_
  have bb := Int.mul_pos hu.b0 hu.b0
  have nn : nrm (difR P p) * (B * B : Int) = (u.1 * u.1 + u.2 * u.2 : Int) := nrm_over hu
  have su : sm (4 * n + 25) (u.1 * u.1 + u.2 * u.2) := ((hu.s1.mul hu.s1).add (hu.s2.mul hu.s2)).mono (by omega)
  have sb2 := (sB.mul sB).mono (by omega : 2 * n + 2 * n ≤ 4 * n + 25)
  walk_at "bl"
  refine Go.mul (hu.s1.cmul hu.s1 (by omega)) ?_
  walk_at "bl"
  refine Go.mul (hu.s2.cmul hu.s2 (by omega)) ?_
  walk_at "bl"
  refine Go.mul (sB.cmul sB (by omega)) ?_
  walk_at "bl"
  refine low_spec bb su sb2 (by omega) nn ?_
  walk_at "bl"
  have z := low_sm (by omega) nn su sb2
  exact lroot_spec (n := 4 * n + 25) (sm.of (show (0 : Int).natAbs < 2 ^ (4 * n + 25) from Nat.pow_pos (by decide))) ⟨z.1, z.2⟩ (nrm_nonneg _) (by omega) k
theorem ldist_cord {p q : P2} {P : R2} {n : Nat} {S : Sto} {Q : DK} {E : EK} (hp : Bd p) (hq : Bd q) (hne : p ≠ q) (hP : PR n P) (hn : n ≤ 150) (k : Q (rt (canon 0 1 (byR p q P))) S) : m_l_distance [thD (.cord p q), plD P] S Q E := by
  refine e_l_distance ?_
  unfold t_l_distance
  walk_at "bl"
  refine on_cord hp hq hne hP hn ?_
  walk_at "bl"
  refine Go.ifD (fun h => ?_) fun h => ?_
  · walk_at "bl"
    rw [h, canon_zero] at k
    exact k
  unfold thD
  walk_at "bl"
  refine by_cord_spec hP hp hq hne (by omega) fun sr1 => ?_
  walk_at "bl"
  exact lroot_spec (n := 4 * n + 74) (sm.of (show (0 : Int).natAbs < 2 ^ (4 * n + 74) from Nat.pow_pos (by decide))) sr1 (byR_nonneg ..) (by omega) k
theorem beyond_eq {c p q : P2} {P : R2} {n : Nat} {u : P2} {B : Int} (hu : Stp n P c u B) : ((crs (dif (dif q c) (dif p c)) (u.1 - (dif p c).1 * B, u.2 - (dif p c).2 * B) : Int) : Rat) = B * crsR (difR P q) (dif p q) := by
  have e1 := hu.ex
  have e2 := hu.ey
  have d1 : (difR P q).1 = (difR P c).1 - ((q.1 : Rat) - c.1) := by
    unfold difR
    grind
  have d2 : (difR P q).2 = (difR P c).2 - ((q.2 : Rat) - c.2) := by
    unfold difR
    grind
  unfold Lb.crs crsR
  rw [d1, d2]
  unfold dif
  dsimp only
  simp only [Rat.intCast_sub, Rat.intCast_mul]
  rw [e1, e2]
  grind
theorem near_eq {c a : P2} {P : R2} {n : Nat} {u : P2} {B : Int} (hu : Stp n P c u B) : (u.1 * u.1 + u.2 * u.2 ≤ dot a a * B * B) ↔ nrm (difR P c) ≤ (dot a a : Int) := by
  have bb := Int.mul_pos hu.b0 hu.b0
  have e := nrm_over hu
  have e2 : ((u.1 * u.1 + u.2 * u.2 - dot a a * B * B : Int) : Rat) = (B * B : Int) * (nrm (difR P c) - (dot a a : Int)) := by
    rw [Rat.intCast_sub, ← e]
    simp only [Rat.intCast_mul]
    grind
  have g := sc_nonpos bb e2
  constructor
  · intro h
    have := g.mp (by omega)
    grind
  · intro h
    have := g.mpr (by grind)
    omega
theorem on_spec {c p q : P2} {P : R2} {n : Nat} {S : Sto} {Q : DK} {E : EK} (hc : Bd c) (hp : Bd p) (hq : Bd q) (hP : PR n P) (hn : n ≤ 150) (k : Q (.bl (decide (nrm (difR P c) ≤ (dot (dif p c) (dif p c) : Int) ∧ crsR (difR P q) (dif p q) ≤ 0))) S) : m_l_is_on [thD (.bow c p q), plD P] S Q E := by
  refine e_l_is_on ?_
  unfold t_l_is_on thD
  obtain ⟨a1, a2⟩ := sm_dif hp hc
  obtain ⟨b1, b2⟩ := sm_dif hq hc
  walk_at "bl"
  refine lsteps_spec hP hc (by omega) fun u B hu sB => ?_
  walk_at "bl"
  refine minus_spec ?_
  walk_at "bl"
  refine minus_spec ?_
  walk_at "bl"
  refine minus_spec ?_
  walk_at "bl"
  refine Go.mul (a1.cmul sB (by omega)) ?_
  walk_at "bl"
  refine Go.mul (a2.cmul sB (by omega)) ?_
  walk_at "bl"
  have w1 : sm (2 * n + 13) (u.1 - (dif p c).1 * B) := ((hu.s1.mono (by omega : 2 * n + 11 ≤ 2 * n + 12)).sub ((a1.mul sB).mono (by omega))).mono (by omega)
  have w2 : sm (2 * n + 13) (u.2 - (dif p c).2 * B) := ((hu.s2.mono (by omega : 2 * n + 11 ≤ 2 * n + 12)).sub ((a2.mul sB).mono (by omega))).mono (by omega)
  refine lcross_spec (n := 2 * n + 13) (b := (u.1 - (dif p c).1 * B, u.2 - (dif p c).2 * B)) ((b1.sub a1).mono (by omega)) ((b2.sub a2).mono (by omega)) w1 w2 (by omega) ?_
  have gb := sc_nonpos hu.b0 (beyond_eq (q := q) (p := p) hu)
  have gn := near_eq (a := dif p c) hu
  walk_at "bl"
  refine Go.mul (hu.s1.cmul hu.s1 (by omega)) ?_
  walk_at "bl"
  refine Go.mul (hu.s2.cmul hu.s2 (by omega)) ?_
  walk_at "bl"
  refine ldot_spec a1 a2 a1 a2 (by omega) ?_
  have sd := sm_dot a1 a2 a1 a2
  walk_at "bl"
  refine Go.mul (sd.cmul sB (by omega)) ?_
  walk_at "bl"
  refine Go.mul ((sd.mul sB).cmul sB (by omega)) ?_
  walk_at "bl"
  refine Go.ifD (fun h => ?_) fun h => ?_
  · walk_at "bl"
    have : decide (crs (dif (dif q c) (dif p c)) (u.1 - (dif p c).1 * B, u.2 - (dif p c).2 * B) ≤ 0) = decide (nrm (difR P c) ≤ (dot (dif p c) (dif p c) : Int) ∧ crsR (difR P q) (dif p q) ≤ 0) := by
      rw [decide_eq_decide, gb]
      exact ⟨fun z => ⟨gn.mp h, z⟩, (·.2)⟩
    rw [this]
    exact k
  · walk_at "bl"
    rw [decide_eq_false (fun z => h (gn.mpr z.1))] at k
    exact k
theorem ldist_bow {c p q : P2} {P : R2} {n : Nat} {S : Sto} {Q : DK} {E : EK} (ht : GoodTh (.bow c p q)) (hP : PR n P) (hn : n ≤ 150) (k : Q (rt (bowR c p q P)) S) : m_l_distance [thD (.bow c p q), plD P] S Q E := by
  obtain ⟨hc, hp, hq, hb⟩ := ht
  refine e_l_distance ?_
  unfold t_l_distance
  obtain ⟨a1, a2⟩ := sm_dif hp hc
  obtain ⟨b1, b2⟩ := sm_dif hq hc
  unfold bowR at k
  walk_at "bl"
  refine on_spec hc hp hq hP hn ?_
  walk_at "bl"
  refine Go.ifD (fun h => ?_) fun h => ?_
  · rw [if_pos h] at k
    walk_at "bl"
    exact k
  rw [if_neg h] at k
  unfold thD
  walk_at "bl"
  refine lsteps_spec hP hc (by omega) fun u B hu sB => ?_
  walk_at "bl"
  refine minus_spec ?_
  walk_at "bl"
  refine minus_spec ?_
  walk_at "bl"
  have s13 : ∀ {i : Int}, sm (2 * n + 11) i → sm (2 * n + 13) i := fun h => h.mono (by omega)
  have s12 : ∀ {i : Int}, sm 12 i → sm (2 * n + 13) i := fun h => h.mono (by omega)
  have bb := Int.mul_pos hu.b0 hu.b0
  have nn : nrm (difR P c) * (B * B : Int) = (u.1 * u.1 + u.2 * u.2 : Int) := nrm_over hu
  have su : sm (4 * n + 25) (u.1 * u.1 + u.2 * u.2) := ((hu.s1.mul hu.s1).add (hu.s2.mul hu.s2)).mono (by omega)
  have sb2 := (sB.mul sB).mono (by omega : 2 * n + 2 * n ≤ 4 * n + 25)
  have gn := near_eq (a := dif p c) hu
  have c1 : 0 ≤ crs (dif p c) u ↔ crsR (difR P c) (dif p c) ≤ 0 := by
    rw [← sc_nonpos hu.b0 (hu.crs (v := dif p c)), crs_flip]
    omega
  have c2 : 0 ≤ crs u (dif q c) ↔ 0 ≤ crsR (difR P c) (dif q c) := sc_nonneg hu.b0 (hu.crs (v := dif q c))
  have sd := sm_dot a1 a2 a1 a2
  have rest : ¬ (crsR (difR P c) (dif p c) ≤ 0 ∧ 0 ≤ crsR (difR P c) (dif q c) ∧ ((dot (dif p c) (dif p c) : Int) : Rat) < nrm (difR P c)) → sr (4 * n + 74) (byR p q P) → m_l_root [.int 0, fr (byR p q P)] S Q E := fun z s1 => by
    rw [if_neg z] at k
    exact lroot_spec (n := 4 * n + 74) (sm.of (show (0 : Int).natAbs < 2 ^ (4 * n + 74) from Nat.pow_pos (by decide))) s1 (byR_nonneg ..) (by omega) k
  refine lcross_spec (n := 2 * n + 13) (b := (u.1, u.2)) (s12 a1) (s12 a2) (s13 hu.s1) (s13 hu.s2) (by omega) ?_
  walk_at "bl"
  refine Go.ifD (fun h1 => ?_) fun h1 => ?_
  · walk_at "bl"
    refine lcross_spec (n := 2 * n + 13) (a := (u.1, u.2)) (s13 hu.s1) (s13 hu.s2) (s12 b1) (s12 b2) (by omega) ?_
    walk_at "bl"
    refine Go.ifD (fun h2 => ?_) fun h2 => ?_
    · walk_at "bl"
      refine Go.mul (hu.s1.cmul hu.s1 (by omega)) ?_
      walk_at "bl"
      refine Go.mul (hu.s2.cmul hu.s2 (by omega)) ?_
      walk_at "bl"
      refine ldot_spec a1 a2 a1 a2 (by omega) ?_
      walk_at "bl"
      refine Go.mul (sd.cmul sB (by omega)) ?_
      walk_at "bl"
      refine Go.mul ((sd.mul sB).cmul sB (by omega)) ?_
      walk_at "bl"
      refine Go.ifD (fun h3 => ?_) fun h3 => ?_
      · rw [if_pos ⟨c1.mp h1, c2.mp h2, Rat.not_le.mp fun z => by have := gn.mpr z; omega⟩] at k
        walk_at "bl"
        refine ldot_spec a1 a2 a1 a2 (by omega) ?_
        walk_at "bl"
        refine rooted_spec (dot_nonneg _) sd (by omega) ?_
        have sr' := isq_sm (dot_nonneg (dif p c)) sd
        walk_at "bl"
        refine Go.mul (hu.s1.cmul hu.s1 (by omega)) ?_
        walk_at "bl"
        refine Go.mul (hu.s2.cmul hu.s2 (by omega)) ?_
        walk_at "bl"
        refine Go.mul (sB.cmul sB (by omega)) ?_
        walk_at "bl"
        refine low_spec bb su sb2 (by omega) nn ?_
        walk_at "bl"
        have z := low_sm (by omega) nn su sb2
        exact lroot_spec (n := 4 * n + 30) (((sm.of (n := 25) (i := 0) (by decide)).sub sr').mono (by omega)) ⟨z.1.mono (by omega), z.2.mono (by omega)⟩ (nrm_nonneg _) (by omega) k
      · walk_at "bl"
        refine by_cord_spec hP hp hq hb.ne (by omega) fun s1 => ?_
        walk_at "bl"
        exact rest (fun z => h3 (by
          have : ¬ (u.1 * u.1 + u.2 * u.2 ≤ dot (dif p c) (dif p c) * B * B) := fun y => Rat.not_le.mpr z.2.2 (gn.mp y)
          omega)) s1
    · walk_at "bl"
      refine by_cord_spec hP hp hq hb.ne (by omega) fun s1 => ?_
      walk_at "bl"
      exact rest (fun z => h2 (c2.mpr z.2.1)) s1
  · walk_at "bl"
    refine by_cord_spec hP hp hq hb.ne (by omega) fun s1 => ?_
    walk_at "bl"
    exact rest (fun z => h1 (c1.mpr z.1)) s1
theorem ldist_spec {t : Th} {P : R2} {n : Nat} {S : Sto} {Q : DK} {E : EK} (ht : GoodTh t) (hP : PR n P) (hn : n ≤ 150) (k : Q (rt (distR t P)) S) : m_l_distance [thD t, plD P] S Q E := by
  cases t with
  | spot p =>
    rw [dist_spot] at k
    exact ldist_spot ht hP hn k
  | cord p q =>
    rw [dist_cord ht] at k
    exact ldist_cord ht.1 ht.2.1 ht.2.2.1 hP hn k
  | bow c p q =>
    rw [dist_bow ht.2.2.2 ht.2.2.1 ht.2.1] at k
    exact ldist_bow ht hP hn k
end Ld.Lt

namespace Ld.Lt
open PySem PySem.Spec PyProof.Rows L2 Bl Lb Rl Rs
theorem contrary_spec {r : Rat} {S : Sto} {Q : DK} {E : EK} (k : Q (fr (-r)) S) : m_l_contrary [fr r] S Q E := by
  refine e_l_contrary ?_
  unfold t_l_contrary
  walk_at "bl"
  rw [Lr.neg_fr]
  exact k
theorem product_spec {a b : Rat} {p q : Int} {m n : Nat} {S : Sto} {Q : DK} {E : EK} (hp : p = b.num) (hq : q = b.den) (ha : sr m a) (hb : sr n b) (hn : m + n ≤ 8900) (k : Q (fr (a * b)) S) : m_l_product [fr a, .tup [.int p, .int q]] S Q E := by
  subst hp hq
  refine e_l_product ?_
  unfold t_l_product
  walk_at "bl"
  refine Go.mul (ha.n.cmul hb.n (by omega)) ?_
  walk_at "bl"
  refine Go.mul (ha.d.cmul hb.d (by omega)) ?_
  walk_at "bl"
  have e1 := num_den a
  have e2 := num_den b
  refine low_spec (n := m + n) (show 0 < (a.den : Int) * b.den from Int.mul_pos (den_pos a) (den_pos b)) (ha.n.mul hb.n) (ha.d.mul hb.d) hn ?_ k
  simp only [Rat.intCast_mul]
  grind
theorem sum2_spec {a b : Rat} {p q : Int} {n : Nat} {S : Sto} {Q : DK} {E : EK} (hp : p = b.num) (hq : q = b.den) (ha : sr n a) (hb : sr n b) (hn : n ≤ 4200) (k : Q (fr (a + b)) S) : m_l_sum [fr a, .tup [.int p, .int q]] S Q E := by
  subst hp
  subst hq
  refine e_l_sum ?_
  unfold t_l_sum
  have e1 := num_den a
  have e2 := num_den b
  walk_at "bl"
  refine Go.mul (ha.n.cmul hb.d (by omega)) ?_
  walk_at "bl"
  refine Go.mul (hb.n.cmul ha.d (by omega)) ?_
  walk_at "bl"
  refine Go.mul (ha.d.cmul hb.d (by omega)) ?_
  walk_at "bl"
  refine low_spec (n := n + n + 1) (Int.mul_pos (den_pos _) (den_pos _)) ((ha.n.mul hb.d).add (hb.n.mul ha.d)) ((ha.d.mul hb.d).mono (by omega)) (by omega) ?_ k
  simp only [Rat.intCast_mul, Rat.intCast_add]
  grind
theorem sgn_if (i : Int) : (if decide (0 < i) = true then (1 : Int) else 0) - (if decide (i < 0) = true then 1 else 0) = i.sign := by
  rcases Int.lt_trichotomy i 0 with z | z | z
  · rw [Int.sign_eq_neg_one_of_neg z, if_neg (by simp; omega), if_pos (by simp; omega)]; decide
  · subst z; decide
  · rw [Int.sign_eq_one_of_pos z, if_pos (by simp; omega), if_neg (by simp; omega)]; decide
theorem side_spec {t b h : Rat} {p q : Int} {n : Nat} {S : Sto} {Q : DK} {E : EK} (hp : p = b.num) (hq : q = b.den) (ht : sr n t) (hb : sr n b) (hh : sr n h) (hn : n ≤ 1000) (k : Q (.int (sideS t b h)) S) : m_l_side [fr t, .tup [.int p, .int q], fr h] S Q E := by
  subst hp hq
  refine e_l_side ?_
  unfold t_l_side
  unfold sideS at k
  walk_at "bl"
  simp only [sgn_if]
  refine Go.ifD (fun h1 => ?_) fun h1 => ?_
  · rw [if_pos (.inl (Rat.num_eq_zero.mp h1))] at k
    walk_at "bl"
    exact k
  walk_at "bl"
  refine Go.ifD (fun h2 => ?_) fun h2 => ?_
  · rw [if_pos (.inr (.inl h2))] at k
    walk_at "bl"
    exact k
  walk_at "bl"
  refine Go.ifD (fun h3 => ?_) fun h3 => ?_
  · rw [if_pos (.inr (.inr h3))] at k
    walk_at "bl"
    exact k
  rw [if_neg (fun z => z.elim (fun z => h1 (Rat.num_eq_zero.mpr z)) fun z => z.elim h2 h3)] at k
  walk_at "bl"
  refine Go.ifD (fun h4 => ?_) fun h4 => ?_
  · rw [if_pos h4] at k
    walk_at "bl"
    exact k
  rw [if_neg h4] at k
  walk_at "bl"
  refine product_spec (a := t) (b := t) rfl rfl ht ht (by omega) ?_
  walk_at "bl"
  refine product_spec (a := b) (b := b) rfl rfl hb hb (by omega) ?_
  walk_at "bl"
  refine product_spec (a := b * b) (b := h) rfl rfl (hb.mul hb) hh (by omega) ?_
  walk_at "bl"
  refine contrary_spec ?_
  walk_at "bl"
  refine sum2_spec (n := 4 * n + 10) rfl rfl ((ht.mul ht).mono (by omega)) (((hb.mul hb).mul hh).neg.mono (by omega)) (by omega) ?_
  walk_at "bl"
  simp only [sgn_if]
  refine Go.mul ((Lr.sign_sm _).cmul (Lr.sign_sm _) (by decide)) ?_
  walk_at "bl"
  exact k
theorem side_val (t b h : Rat) : sm 2 (sideS t b h) := by
  unfold sideS
  split
  · exact Lr.sign_sm _
  · split
    · exact Lr.sign_sm _
    · have h1 : t.num.sign = -1 ∨ t.num.sign = 0 ∨ t.num.sign = 1 := Lb.num_sign t
      have h2 : (t * t + -(b * b * h)).num.sign = -1 ∨ (t * t + -(b * b * h)).num.sign = 0 ∨ (t * t + -(b * b * h)).num.sign = 1 := Lb.num_sign _
      rcases h1 with e | e | e <;> rcases h2 with e' | e' | e' <;> rw [e, e'] <;> exact sm.of (by decide)
theorem compare_spec {x y : Rt} {n : Nat} {S : Sto} {Q : DK} {E : EK} (hx : Ok x) (hy : Ok y) (xb : sr n x.b) (xq : sr n x.q) (yb : sr n y.b) (yq : sr n y.q) (hn : n ≤ 150) (k : Q (.int (sg (val x - val y))) S) : m_l_compare [rt x, rt y] S Q E := by
  refine e_l_compare ?_
  unfold t_l_compare
  rw [← cmpL_law hx hy] at k
  unfold cmpL at k
  have nb := xb.add yb.neg
  have sx : sm 2 x.s := by have := hx.s; unfold sm; omega
  have s2 : sm 2 (2 : Int) := sm.of (by decide)
  have s3 : sr 3 ((x.s : Int) : Rat) := sr.int (sx.mono (by decide)) (by decide)
  have s4 : sr 5 ((2 * x.s : Int) : Rat) := sr.int ((s2.mul sx).mono (by decide)) (by decide)
  have one : (1 : Int) = (((x.s : Int) : Rat)).den := by rw [Rat.den_intCast]; rfl
  walk_at "bl"
  refine contrary_spec ?_
  walk_at "bl"
  refine sum2_spec (n := n) rfl rfl xb yb.neg (by omega) ?_
  walk_at "bl"
  refine side_spec (n := 2 * n + 10) (b := (x.s : Int)) (by rw [Rat.num_intCast]) (by rw [Rat.den_intCast]; rfl) (nb.mono (by omega)) (s3.mono (by omega)) (xq.mono (by omega)) (by omega) ?_
  walk_at "bl"
  generalize e1 : sideS (x.b + -y.b) ((x.s : Int) : Rat) x.q = w at *
  have sw : sm 2 w := by rw [← e1]; exact side_val _ _ _
  refine Go.ifD (fun h1 => ?_) fun h1 => ?_
  case' refine_2 =>
    rw [if_pos h1] at k
    walk_at "bl"
    refine Go.ifD (fun h2 => ?_) fun h2 => ?_
    · rw [if_pos h2] at k
      walk_at "bl"
      exact k
    · rw [if_neg h2] at k
      walk_at "bl"
      exact k
  rw [if_neg (fun z => z h1)] at k
  walk_at "bl"
  refine Go.ifD (fun h2 => ?_) fun h2 => ?_
  · rw [if_pos h2] at k
    walk_at "bl"
    exact k
  rw [if_neg h2] at k
  walk_at "bl"
  refine product_spec rfl rfl nb nb (by omega) ?_
  walk_at "bl"
  refine sum2_spec (n := 8 * n + 20) rfl rfl ((nb.mul nb).mono (by omega)) (xq.mono (by omega)) (by omega) ?_
  walk_at "bl"
  refine contrary_spec ?_
  walk_at "bl"
  refine sum2_spec (n := 8 * n + 20) rfl rfl (((nb.mul nb).add xq).mono (by omega)) (yq.neg.mono (by omega)) (by omega) ?_
  walk_at "bl"
  refine Go.mul (s2.cmul sx (by decide)) ?_
  walk_at "bl"
  refine product_spec (b := ((2 * x.s : Int) : Rat)) (by rw [Rat.num_intCast]) (by rw [Rat.den_intCast]; rfl) nb s4 (by omega) ?_
  walk_at "bl"
  refine side_spec (n := 6 * n + 40) rfl rfl ((((nb.mul nb).add xq).add yq.neg).mono (by omega)) ((nb.mul s4).mono (by omega)) (xq.mono (by omega)) (by omega) ?_
  walk_at "bl"
  refine Go.mul (sw.cmul (side_val _ _ _) (by decide)) ?_
  walk_at "bl"
  exact k
end Ld.Lt

namespace Ld.Lt
open PySem PySem.Spec PyProof.Rows L2 Bl Lb Rl Rs
def inArc (c p q a : P2) : Prop := 0 ≤ crs (dif p c) a ∧ 0 ≤ crs a (dif q c)
instance (c p q a : P2) : Decidable (inArc c p q a) := by unfold inArc; infer_instance
def dirC (p q v : P2) : P2 := if dot (dif v p) (dif q p) ≤ 0 then neg2 (dif v p) else if dot (dif q p) (dif q p) ≤ dot (dif v p) (dif q p) then dif q v else if 0 < crs (dif q p) (dif v p) then ((dif q p).2, 0 - (dif q p).1) else (0 - (dif q p).2, (dif q p).1)
def dirL : Th → P2 → P2
  | .spot p, v => dif p v
  | .cord p q, v => dirC p q v
  | .bow c p q, v => if inArc c p q (dif v c) ∧ dot (dif p c) (dif p c) < dot (dif v c) (dif v c) then neg2 (dif v c) else dirC p q v
theorem in_arc_spec {c p q a : P2} {S : Sto} {Q : DK} {E : EK} (hc : Bd c) (hp : Bd p) (hq : Bd q) (a1 : sm 12 a.1) (a2 : sm 12 a.2) (k : Q (.bl (decide (inArc c p q a))) S) : m_l_in_arc [thD (.bow c p q), pt a] S Q E := by
  refine e_l_in_arc ?_
  unfold t_l_in_arc thD
  obtain ⟨b1, b2⟩ := sm_dif hp hc
  obtain ⟨d1, d2⟩ := sm_dif hq hc
  walk_at "bl"
  refine minus_spec ?_
  walk_at "bl"
  refine minus_spec ?_
  walk_at "bl"
  refine lcross_spec (n := 12) b1 b2 a1 a2 (by omega) ?_
  walk_at "bl"
  refine Go.ifD (fun h1 => ?_) fun h1 => ?_
  · walk_at "bl"
    refine lcross_spec (n := 12) a1 a2 d1 d2 (by omega) ?_
    walk_at "bl"
    have : decide (inArc c p q a) = decide (0 ≤ crs a (dif q c)) := by
      rw [decide_eq_decide]
      exact ⟨(·.2), fun z => ⟨h1, z⟩⟩
    rw [this] at k
    exact k
  · walk_at "bl"
    rw [decide_eq_false (fun z => h1 z.1)] at k
    exact k
theorem pl_pt (v : P2) : D.tup [.tup [.int v.1, .int 1], .tup [.int v.2, .int 1]] = plD (toR v) := by
  unfold plD toR fr
  simp only [Rat.num_intCast, Rat.den_intCast]
  rfl
theorem pr_bd {v : P2} (h : Bd v) : PR 40 (toR v) := by
  obtain ⟨a, b⟩ := h
  exact ⟨sr.int (by unfold sm; omega) (by decide), sr.int (by unfold sm; omega) (by decide)⟩
theorem reach_spec {t : Th} {v : P2} {S : Sto} {Q : DK} {E : EK} (ht : GoodTh t) (hv : Bd v) (k : Q (.tup [rt (distR t (toR v)), pt (dirL t v)]) S) : m_l_reach_of [thD t, pt v] S Q E := by
  refine e_l_reach_of ?_
  unfold t_l_reach_of
  walk_at "bl"
  rw [pl_pt]
  refine ldist_spec ht (pr_bd hv) (by decide) ?_
  generalize distR t (toR v) = ρ at *
  cases t with
  | spot p =>
    unfold thD
    walk_at "bl"
    refine minus_spec ?_
    walk_at "bl"
    exact k
  | cord p q =>
    obtain ⟨hp, hq, _⟩ := ht
    obtain ⟨a1, a2⟩ := sm_dif hq hp
    obtain ⟨e1, e2⟩ := sm_dif hv hp
    have k : Q (.tup [rt ρ, pt (dirC p q v)]) S := k
    unfold thD
    walk_at "bl"
    refine minus_spec ?_
    walk_at "bl"
    refine minus_spec ?_
    walk_at "bl"
    refine ldot_spec (a := dif v p) (b := dif q p) e1 e2 a1 a2 (by omega) ?_
    unfold dirC at k
    walk_at "bl"
    refine Go.ifD (fun h1 => ?_) fun h1 => ?_
    · rw [if_pos h1] at k
      walk_at "bl"
      exact k
    rw [if_neg h1] at k
    walk_at "bl"
    refine ldot_spec (a := dif v p) (b := dif q p) e1 e2 a1 a2 (by omega) ?_
    walk_at "bl"
    refine ldot_spec (a := dif q p) (b := dif q p) a1 a2 a1 a2 (by omega) ?_
    walk_at "bl"
    refine Go.ifD (fun h2 => ?_) fun h2 => ?_
    · rw [if_pos h2] at k
      walk_at "bl"
      refine minus_spec ?_
      walk_at "bl"
      exact k
    rw [if_neg h2] at k
    walk_at "bl"
    refine lcross_spec (a := dif q p) (b := dif v p) a1 a2 e1 e2 (by omega) ?_
    walk_at "bl"
    refine Go.ifD (fun h3 => ?_) fun h3 => ?_
    · rw [if_pos h3] at k
      walk_at "bl"
      exact k
    · rw [if_neg h3] at k
      walk_at "bl"
      exact k
  | bow c p q =>
    obtain ⟨hc, hp, hq, _⟩ := ht
    obtain ⟨a1, a2⟩ := sm_dif hq hp
    obtain ⟨e1, e2⟩ := sm_dif hv hp
    obtain ⟨b1, b2⟩ := sm_dif hv hc
    obtain ⟨d1, d2⟩ := sm_dif hp hc
    have k : Q (.tup [rt ρ, pt (if inArc c p q (dif v c) ∧ dot (dif p c) (dif p c) < dot (dif v c) (dif v c) then neg2 (dif v c) else dirC p q v)]) S := k
    have tail : ¬ (inArc c p q (dif v c) ∧ dot (dif p c) (dif p c) < dot (dif v c) (dif v c)) → Q (.tup [rt ρ, pt (dirC p q v)]) S := fun z => by rw [if_neg z] at k; exact k
    have here : inArc c p q (dif v c) ∧ dot (dif p c) (dif p c) < dot (dif v c) (dif v c) → Q (.tup [rt ρ, pt (neg2 (dif v c))]) S := fun z => by rw [if_pos z] at k; exact k
    clear k
    rw [show thD (.bow c p q) = .tup [.str (Str.ofString "bow"), pt c, pt p, pt q] from rfl]
    walk_at "bl"
    refine minus_spec ?_
    walk_at "bl"
    refine minus_spec ?_
    walk_at "bl"
    refine in_arc_spec hc hp hq b1 b2 ?_
    walk_at "bl"
    refine Go.ifD (fun g1 => ?_) fun g1 => ?_
    · walk_at "bl"
      refine ldot_spec (a := dif v c) (b := dif v c) b1 b2 b1 b2 (by omega) ?_
      walk_at "bl"
      refine ldot_spec (a := dif p c) (b := dif p c) d1 d2 d1 d2 (by omega) ?_
      walk_at "bl"
      refine Go.ifD (fun g2 => ?_) fun g2 => ?_
      · have k := here ⟨g1, g2⟩
        walk_at "bl"
        exact k
      have k := tail fun z => g2 z.2
      walk_at "bl"
      refine minus_spec ?_
      walk_at "bl"
      refine minus_spec ?_
      walk_at "bl"
      refine ldot_spec (a := dif v p) (b := dif q p) e1 e2 a1 a2 (by omega) ?_
      unfold dirC at k
      walk_at "bl"
      refine Go.ifD (fun h1 => ?_) fun h1 => ?_
      · rw [if_pos h1] at k
        walk_at "bl"
        exact k
      rw [if_neg h1] at k
      walk_at "bl"
      refine ldot_spec (a := dif v p) (b := dif q p) e1 e2 a1 a2 (by omega) ?_
      walk_at "bl"
      refine ldot_spec (a := dif q p) (b := dif q p) a1 a2 a1 a2 (by omega) ?_
      walk_at "bl"
      refine Go.ifD (fun h2 => ?_) fun h2 => ?_
      · rw [if_pos h2] at k
        walk_at "bl"
        refine minus_spec ?_
        walk_at "bl"
        exact k
      rw [if_neg h2] at k
      walk_at "bl"
      refine lcross_spec (a := dif q p) (b := dif v p) a1 a2 e1 e2 (by omega) ?_
      walk_at "bl"
      refine Go.ifD (fun h3 => ?_) fun h3 => ?_
      · rw [if_pos h3] at k
        walk_at "bl"
        exact k
      · rw [if_neg h3] at k
        walk_at "bl"
        exact k
    · have k := tail fun z => g1 z.1
      walk_at "bl"
      refine minus_spec ?_
      walk_at "bl"
      refine minus_spec ?_
      walk_at "bl"
      refine ldot_spec (a := dif v p) (b := dif q p) e1 e2 a1 a2 (by omega) ?_
      unfold dirC at k
      walk_at "bl"
      refine Go.ifD (fun h1 => ?_) fun h1 => ?_
      · rw [if_pos h1] at k
        walk_at "bl"
        exact k
      rw [if_neg h1] at k
      walk_at "bl"
      refine ldot_spec (a := dif v p) (b := dif q p) e1 e2 a1 a2 (by omega) ?_
      walk_at "bl"
      refine ldot_spec (a := dif q p) (b := dif q p) a1 a2 a1 a2 (by omega) ?_
      walk_at "bl"
      refine Go.ifD (fun h2 => ?_) fun h2 => ?_
      · rw [if_pos h2] at k
        walk_at "bl"
        refine minus_spec ?_
        walk_at "bl"
        exact k
      rw [if_neg h2] at k
      walk_at "bl"
      refine lcross_spec (a := dif q p) (b := dif v p) a1 a2 e1 e2 (by omega) ?_
      walk_at "bl"
      refine Go.ifD (fun h3 => ?_) fun h3 => ?_
      · rw [if_pos h3] at k
        walk_at "bl"
        exact k
      · rw [if_neg h3] at k
        walk_at "bl"
        exact k
end Ld.Lt

/-! the law's candidates: distances of points and their directions are those by the faces -/
namespace Rs
open Lb Ld Rl Ld.Lt
/-- the nearest place of a thing is one alone -/
theorem near_uniq {B : Th} (hB : GoodTh B) {x y z w z' w' : Real} (h1 : InS B z w) (h2 : InS B z' w') (e : (x - z) * (x - z) + (y - w) * (y - w) = (x - z') * (x - z') + (y - w') * (y - w')) (lb : ∀ u v, InS B u v → (x - z) * (x - z) + (y - w) * (y - w) ≤ (x - u) * (x - u) + (y - v) * (y - v)) : z' = z ∧ w' = w := by
  obtain ⟨t, ht⟩ := inv_ex (show (0 : Real) < 2 by grind)
  have l := lb _ _ (convex hB h1 h2 (t := t) (by grind) (by grind))
  obtain ⟨a, ha⟩ : ∃ a, a = z' - z := ⟨_, rfl⟩
  obtain ⟨b, hb⟩ : ∃ b, b = w' - w := ⟨_, rfl⟩
  obtain ⟨X, hX⟩ : ∃ X, X = x - z := ⟨_, rfl⟩
  obtain ⟨Y, hY⟩ : ∃ Y, Y = y - w := ⟨_, rfl⟩
  have e1 : X * X + Y * Y = (X - a) * (X - a) + (Y - b) * (Y - b) := by rw [ha, hb, hX, hY]; grind
  have l1 : X * X + Y * Y ≤ (X - t * a) * (X - t * a) + (Y - t * b) * (Y - t * b) := by rw [ha, hb, hX, hY]; grind
  have e2 : 4 * ((X - t * a) * (X - t * a) + (Y - t * b) * (Y - t * b)) = 4 * (X * X + Y * Y) - (a * a + b * b) := by
    have : 2 * (a * X + b * Y) = a * a + b * b := by grind
    have : (2 * t) * (2 * t) = 1 := by rw [ht]; grind
    grind
  have s1 := Real.sq_nn a
  have s2 := Real.sq_nn b
  have za : a * a = 0 := by grind
  have zb : b * b = 0 := by grind
  have za' : a = 0 := by rcases Real.mul_zero' za with h | h <;> exact h
  have zb' : b = 0 := by rcases Real.mul_zero' zb with h | h <;> exact h
  exact ⟨by grind, by grind⟩
theorem dotR_int (v c w : P2) : dotR (difR (toR v) c) w = ((dot (dif v c) w : Int) : Rat) := by
  unfold dotR difR toR dot dif
  dsimp only
  rw [Rat.intCast_add, Rat.intCast_mul, Rat.intCast_mul, Rat.intCast_sub, Rat.intCast_sub]
theorem crsR_int (v c w : P2) : crsR (difR (toR v) c) w = ((crs (dif v c) w : Int) : Rat) := by
  unfold crsR difR toR crs dif
  dsimp only
  rw [Rat.intCast_sub, Rat.intCast_mul, Rat.intCast_mul, Rat.intCast_sub, Rat.intCast_sub]
theorem nrm_int (v c : P2) : nrm (difR (toR v) c) = ((dot (dif v c) (dif v c) : Int) : Rat) := by
  unfold nrm difR toR dot dif
  dsimp only
  rw [Rat.intCast_add, Rat.intCast_mul, Rat.intCast_mul, Rat.intCast_sub, Rat.intCast_sub]
theorem o_dot (u w : P2) : o (dot u w) = o u.1 * o w.1 + o u.2 * o w.2 := by
  unfold dot
  rw [o_add, o_mul, o_mul]
theorem o_crs (u w : P2) : o (crs u w) = o u.1 * o w.2 - o u.2 * o w.1 := by
  unfold crs
  rw [o_sub, o_mul, o_mul]
theorem o_dif (a b : P2) : o (dif a b).1 = o a.1 - o b.1 ∧ o (dif a b).2 = o a.2 - o b.2 := by
  unfold dif
  exact ⟨o_sub .., o_sub ..⟩
theorem val_c0 {q : Rat} (h : 0 ≤ q) : val (canon 0 1 q) * val (canon 0 1 q) = Real.of q := by
  rw [canon_val h, of_int1, Real.of_zero]
  have := rtq_sq h
  grind
theorem nz {i : Int} (h : i ≠ 0) : o i ≠ 0 := fun z => by
  have : o i = o 0 := by rw [z, o_0]
  rcases Int.lt_trichotomy i 0 with k | k | k
  · have := o_pos (show 0 < -i by omega)
    rw [show (-i : Int) = 0 - i by omega, o_sub, o_0] at this
    grind
  · exact h k
  · have := o_pos k
    grind
/-- the foot on a straight piece, off it -/
theorem dirC_foot {p q v : P2} (hne : p ≠ q) (hn : ∀ s : Real, 0 ≤ s → s ≤ 1 → ¬ (o v.1 = o p.1 + s * (o q.1 - o p.1) ∧ o v.2 = o p.2 + s * (o q.2 - o p.2))) :
    ∃ s κ : Real, 0 ≤ s ∧ s ≤ 1 ∧ 0 < κ ∧ o (dirC p q v).1 = κ * (o p.1 + s * (o q.1 - o p.1) - o v.1) ∧ o (dirC p q v).2 = κ * (o p.2 + s * (o q.2 - o p.2) - o v.2) ∧
      (o v.1 - (o p.1 + s * (o q.1 - o p.1))) * (o v.1 - (o p.1 + s * (o q.1 - o p.1))) + (o v.2 - (o p.2 + s * (o q.2 - o p.2))) * (o v.2 - (o p.2 + s * (o q.2 - o p.2))) = Real.of (byR p q (toR v)) := by
  have L0 := dot_pos (dif_ne (Ne.symm hne))
  obtain ⟨d1, d2⟩ := o_dif q p
  obtain ⟨v1, v2⟩ := o_dif v p
  obtain ⟨w1, w2⟩ := o_dif q v
  unfold dirC byR
  dsimp only
  rw [dotR_int, crsR_int, nrm_int, nrm_int]
  by_cases h1 : dot (dif v p) (dif q p) ≤ 0
  · have h1' : ((dot (dif v p) (dif q p) : Int) : Rat) ≤ 0 := by rw [show (0 : Rat) = ((0 : Int) : Rat) from rfl, Rat.intCast_le_intCast]; exact h1
    rw [if_pos h1, if_pos h1']
    obtain ⟨n1, n2⟩ := o_neg2 (dif v p)
    refine ⟨0, 1, by grind, by grind, by grind, by rw [n1, v1]; grind, by rw [n2, v2]; grind, ?_⟩
    show _ = o _
    rw [o_dot, v1, v2]
    grind
  have h1' : ¬ ((dot (dif v p) (dif q p) : Int) : Rat) ≤ 0 := by rw [show (0 : Rat) = ((0 : Int) : Rat) from rfl, Rat.intCast_le_intCast]; exact h1
  rw [if_neg h1, if_neg h1']
  by_cases h2 : dot (dif q p) (dif q p) ≤ dot (dif v p) (dif q p)
  · have h2' : ((dot (dif q p) (dif q p) : Int) : Rat) ≤ ((dot (dif v p) (dif q p) : Int) : Rat) := by rw [Rat.intCast_le_intCast]; exact h2
    rw [if_pos h2, if_pos h2']
    refine ⟨1, 1, by grind, by grind, by grind, by rw [w1]; grind, by rw [w2]; grind, ?_⟩
    show _ = o _
    obtain ⟨u1, u2⟩ := o_dif v q
    rw [o_dot, u1, u2]
    grind
  have h2' : ¬ ((dot (dif q p) (dif q p) : Int) : Rat) ≤ ((dot (dif v p) (dif q p) : Int) : Rat) := by rw [Rat.intCast_le_intCast]; exact h2
  rw [if_neg h2, if_neg h2']
  obtain ⟨X, hX⟩ : ∃ X, X = o v.1 - o p.1 := ⟨_, rfl⟩
  obtain ⟨Y, hY⟩ : ∃ Y, Y = o v.2 - o p.2 := ⟨_, rfl⟩
  obtain ⟨a, ha⟩ : ∃ a, a = o q.1 - o p.1 := ⟨_, rfl⟩
  obtain ⟨b, hb⟩ : ∃ b, b = o q.2 - o p.2 := ⟨_, rfl⟩
  have Lp := o_pos L0
  have D0 : 0 < o (dot (dif v p) (dif q p)) := o_pos (by omega)
  have D1 : 0 < o (dot (dif q p) (dif q p) - dot (dif v p) (dif q p)) := o_pos (by omega)
  rw [o_sub] at D1
  have eL : o (dot (dif q p) (dif q p)) = a * a + b * b := by rw [o_dot, d1, d2, ha, hb]
  have eD : o (dot (dif v p) (dif q p)) = X * a + Y * b := by rw [o_dot, v1, v2, d1, d2, ha, hb, hX, hY]
  have eC : o (crs (dif v p) (dif q p)) = X * b - Y * a := by rw [o_crs, v1, v2, d1, d2, ha, hb, hX, hY]
  have eC' : o (crs (dif q p) (dif v p)) = a * Y - b * X := by rw [o_crs, v1, v2, d1, d2, ha, hb, hX, hY]
  have eB : Real.of (((crs (dif v p) (dif q p) : Int) : Rat) * ((crs (dif v p) (dif q p) : Int) : Rat) / ((dot (dif q p) (dif q p) : Int) : Rat)) * o (dot (dif q p) (dif q p)) = (X * b - Y * a) * (X * b - Y * a) := by
    rw [← eC, o_cast, o_cast, ← Real.of_mul, Rat.div_mul_cancel (castne (by omega)), Real.of_mul]
  generalize Real.of (((crs (dif v p) (dif q p) : Int) : Rat) * ((crs (dif v p) (dif q p) : Int) : Rat) / ((dot (dif q p) (dif q p) : Int) : Rat)) = β at *
  obtain ⟨i, hi⟩ := inv_ex Lp
  rw [eL] at hi Lp D1 eB
  rw [eD] at D0 D1
  have i0 : 0 < i := by
    rcases Real.tri' i 0 with h | h | h
    · have := Real.mul_pos Lp (show 0 < -i by grind)
      grind
    · rw [h] at hi; grind
    · exact h
  obtain ⟨s, hs⟩ : ∃ s, s = (X * a + Y * b) * i := ⟨_, rfl⟩
  have sL : s * (a * a + b * b) = X * a + Y * b := by rw [hs]; grind
  have s0 : 0 ≤ s := by
    have := Real.mul_pos D0 i0
    grind
  have s1 : s ≤ 1 := by
    have := Real.mul_pos D1 i0
    have : (a * a + b * b - (X * a + Y * b)) * i = 1 - s := by rw [hs]; grind
    grind
  have f1 : (a * a + b * b) * (s * a - X) = b * (a * Y - b * X) := by grind
  have f2 : (a * a + b * b) * (s * b - Y) = -(a * (a * Y - b * X)) := by grind
  have eS : (o v.1 - (o p.1 + s * (o q.1 - o p.1))) * (o v.1 - (o p.1 + s * (o q.1 - o p.1))) + (o v.2 - (o p.2 + s * (o q.2 - o p.2))) * (o v.2 - (o p.2 + s * (o q.2 - o p.2))) = β := by
    have g1 : o v.1 - (o p.1 + s * (o q.1 - o p.1)) = X - s * a := by rw [hX, ha]; grind
    have g2 : o v.2 - (o p.2 + s * (o q.2 - o p.2)) = Y - s * b := by rw [hY, hb]; grind
    rw [g1, g2]
    refine eq_of_mul (Real.mul_pos Lp Lp) ?_
    have : ((X - s * a) * (X - s * a) + (Y - s * b) * (Y - s * b)) * ((a * a + b * b) * (a * a + b * b)) = ((a * a + b * b) * (s * a - X)) * ((a * a + b * b) * (s * a - X)) + ((a * a + b * b) * (s * b - Y)) * ((a * a + b * b) * (s * b - Y)) := by grind
    rw [this, f1, f2]
    have : β * ((a * a + b * b) * (a * a + b * b)) = (β * (a * a + b * b)) * (a * a + b * b) := by grind
    rw [this, eB]
    grind
  have t1 : o p.1 + s * (o q.1 - o p.1) - o v.1 = s * a - X := by rw [hX, ha]; grind
  have t2 : o p.2 + s * (o q.2 - o p.2) - o v.2 = s * b - Y := by rw [hY, hb]; grind
  by_cases h3 : 0 < crs (dif q p) (dif v p)
  · rw [if_pos h3]
    have C0 := o_pos h3
    rw [eC'] at C0
    obtain ⟨j, hj⟩ := inv_ex C0
    have j0 : 0 < j := by
      rcases Real.tri' j 0 with h | h | h
      · have := Real.mul_pos C0 (show 0 < -j by grind)
        grind
      · rw [h] at hj; grind
      · exact h
    refine ⟨s, (a * a + b * b) * j, s0, s1, Real.mul_pos Lp j0, ?_, ?_, eS⟩
    · rw [t1, show (a * a + b * b) * j * (s * a - X) = ((a * a + b * b) * (s * a - X)) * j by grind, f1]
      show o (dif q p).2 = _
      rw [d2, ← hb]
      grind
    · rw [t2, show (a * a + b * b) * j * (s * b - Y) = ((a * a + b * b) * (s * b - Y)) * j by grind, f2]
      show o (0 - (dif q p).1) = _
      rw [o_sub, o_0, d1, ← ha]
      grind
  · rw [if_neg h3]
    have C1 : crs (dif q p) (dif v p) ≠ 0 := fun z => by
      have z' : a * Y - b * X = 0 := by rw [← eC', z, o_0]
      rw [z'] at f1 f2
      have k1 : s * a - X = 0 := by
        refine eq_of_mul Lp ?_
        grind
      have k2 : s * b - Y = 0 := by
        refine eq_of_mul Lp ?_
        grind
      exact hn s s0 s1 ⟨by grind, by grind⟩
    have C0 := o_pos (show 0 < 0 - crs (dif q p) (dif v p) by omega)
    rw [o_sub, o_0, eC'] at C0
    obtain ⟨j, hj⟩ := inv_ex C0
    have j0 : 0 < j := by
      rcases Real.tri' j 0 with h | h | h
      · have := Real.mul_pos C0 (show 0 < -j by grind)
        grind
      · rw [h] at hj; grind
      · exact h
    refine ⟨s, (a * a + b * b) * j, s0, s1, Real.mul_pos Lp j0, ?_, ?_, eS⟩
    · rw [t1, show (a * a + b * b) * j * (s * a - X) = ((a * a + b * b) * (s * a - X)) * j by grind, f1]
      show o (0 - (dif q p).2) = _
      rw [o_sub, o_0, d2, ← hb]
      grind
    · rw [t2, show (a * a + b * b) * j * (s * b - Y) = ((a * a + b * b) * (s * b - Y)) * j by grind, f2]
      show o (dif q p).1 = _
      rw [d1, ← ha]
      grind
end Rs

/-! the law's least candidate is the program's distance -/
namespace Rs
open Lb Ld Rl Ld.Lt
theorem far_dot (c p : P2) : dot (dif p c) (dif p c) = far c p := by
  rw [far_eq]
  unfold dot dif
  grind
theorem arc_cone {c p q : P2} (hb : BowOk c p q) {a : P2} {u v κ : Real} (hk : 0 < κ) (e1 : o a.1 = κ * u) (e2 : o a.2 = κ * v) : inArc c p q a ↔ coneR (low (dif p c)) (low (dif q c)) u v := by
  obtain ⟨np, nq⟩ := hb.np
  obtain ⟨g, g0, g1, g2⟩ := low_rel (dif_ne np)
  obtain ⟨k, k0, k1, k2⟩ := low_rel (dif_ne nq)
  have ne := (bow_ne hb).1
  have i1 : o (crs (dif p c) a) = (g * κ) * (o (low (dif p c)).1 * v - o (low (dif p c)).2 * u) := by
    rw [o_crs, g1, g2, e1, e2]
    grind
  have i2 : o (crs a (dif q c)) = (k * κ) * (u * o (low (dif q c)).2 - v * o (low (dif q c)).1) := by
    rw [o_crs, k1, k2, e1, e2]
    grind
  have gp := Real.mul_pos g0 hk
  have kp := Real.mul_pos k0 hk
  constructor
  · rintro ⟨h1, h2⟩
    have h1 := o_nn h1
    have h2 := o_nn h2
    rw [i1] at h1
    rw [i2] at h2
    exact .inr ⟨nn_div gp h1, nn_div kp h2⟩
  · intro h
    obtain ⟨h1, h2⟩ := coneR_ne h ne
    have j1 := nn_mul gp h1
    have j2 := nn_mul kp h2
    rw [← i1, ← o_0, o_le] at j1
    rw [← i2, ← o_0, o_le] at j2
    exact ⟨j1, j2⟩
theorem dir_foot {B : Th} (hB : GoodTh B) {v : P2} (hn : ¬ InS B (o v.1) (o v.2)) : ∃ z w κ : Real, InS B z w ∧ 0 < κ ∧ o (dirL B v).1 = κ * (z - o v.1) ∧ o (dirL B v).2 = κ * (w - o v.2) ∧ (o v.1 - z) * (o v.1 - z) + (o v.2 - w) * (o v.2 - w) = val (distR B (toR v)) * val (distR B (toR v)) := by
  cases B with
  | spot p =>
    obtain ⟨d1, d2⟩ := o_dif p v
    obtain ⟨e1, e2⟩ := o_dif v p
    rw [dist_spot, val_c0 (nrm_nonneg _), nrm_int]
    refine ⟨o p.1, o p.2, 1, ⟨rfl, rfl⟩, by grind, ?_, ?_, ?_⟩
    · show o (dif p v).1 = _
      rw [d1]; grind
    · show o (dif p v).2 = _
      rw [d2]; grind
    · show _ = o _
      rw [o_dot, e1, e2]
  | cord p q =>
    obtain ⟨s, κ, s0, s1, k0, e1, e2, e3⟩ := dirC_foot (v := v) hB.2.2.1 (fun s s0 s1 h => hn ⟨s, s0, s1, h.1, h.2⟩)
    rw [dist_cord hB, val_c0 (byR_nonneg ..)]
    exact ⟨_, _, κ, ⟨s, s0, s1, rfl, rfl⟩, k0, e1, e2, e3⟩
  | bow c p q =>
    obtain ⟨bc, bp, bq, hb⟩ := id hB
    obtain ⟨v1, v2⟩ := o_dif v c
    obtain ⟨p1, p2⟩ := o_dif p c
    rw [dist_bow hb bq bp]
    have side : Fc.side q p ∈ facesL (.bow c p q) := by simp [facesL]
    have chord : ∀ s : Real, 0 ≤ s → s ≤ 1 → InS (.bow c p q) (o p.1 + s * (o q.1 - o p.1)) (o p.2 + s * (o q.2 - o p.2)) := fun s s0 s1 => by
      have := foot_side hB side (s := 1 - s) (by grind) (by grind)
      rw [show o p.1 + s * (o q.1 - o p.1) = o q.1 + (1 - s) * (o p.1 - o q.1) by grind, show o p.2 + s * (o q.2 - o p.2) = o q.2 + (1 - s) * (o p.2 - o q.2) by grind]
      exact this
    have off : ¬ (nrm (difR (toR v) c) ≤ (dot (dif p c) (dif p c) : Int) ∧ crsR (difR (toR v) q) (dif p q) ≤ 0) := by
      rintro ⟨z1, z2⟩
      apply hn
      rw [nrm_int, Rat.intCast_le_intCast] at z1
      rw [crsR_int, show (0 : Rat) = ((0 : Int) : Rat) from rfl, Rat.intCast_le_intCast] at z2
      have z1 := o_le.mpr z1
      have z2 := o_le.mpr z2
      obtain ⟨a1, a2⟩ := o_dif v q
      obtain ⟨b1, b2⟩ := o_dif p q
      rw [far_dot c p, o_dot, v1, v2] at z1
      rw [o_crs, o_0, a1, a2, b1, b2] at z2
      exact ⟨by grind, by grind⟩
    have arc : (inArc c p q (dif v c) ∧ dot (dif p c) (dif p c) < dot (dif v c) (dif v c)) ↔ (crsR (difR (toR v) c) (dif p c) ≤ 0 ∧ 0 ≤ crsR (difR (toR v) c) (dif q c) ∧ ((dot (dif p c) (dif p c) : Int) : Rat) < nrm (difR (toR v) c)) := by
      rw [crsR_int, crsR_int, nrm_int, Rat.intCast_lt_intCast, show (0 : Rat) = ((0 : Int) : Rat) from rfl, Rat.intCast_le_intCast, Rat.intCast_le_intCast]
      unfold inArc
      have := crs_flip (dif p c) (dif v c)
      constructor
      · rintro ⟨⟨x1, x2⟩, x3⟩
        exact ⟨by omega, x2, x3⟩
      · rintro ⟨x1, x2, x3⟩
        exact ⟨⟨by omega, x2⟩, x3⟩
    unfold bowR
    rw [if_neg off]
    by_cases ha : inArc c p q (dif v c) ∧ dot (dif p c) (dif p c) < dot (dif v c) (dif v c)
    · rw [if_pos (arc.mp ha), show dirL (.bow c p q) v = neg2 (dif v c) from if_pos ha]
      obtain ⟨n1, n2⟩ := o_neg2 (dif v c)
      obtain ⟨a, b, d, e, R, r, w⟩ := bw_of hb
      have cn := (arc_cone hb (a := dif v c) (κ := 1) (u := o v.1 - o c.1) (v := o v.2 - o c.2) (by grind) (by rw [v1]; grind) (by rw [v2]; grind)).mp ha.1
      have hf : Fc.round c (isq (far c p).toNat) (low (dif p c)) (low (dif q c)) ∈ facesL (.bow c p q) := by simp [facesL]
      have lt := o_pos (show 0 < dot (dif v c) (dif v c) - far c p by have := ha.2; rw [far_dot c p] at this; omega)
      rw [o_sub, o_dot, v1, v2, w.eR] at lt
      have nn := rtq_sq (nrm_nonneg (difR (toR v) c))
      have n0 := rtq_nn (nrm (difR (toR v) c))
      rw [of_nrm] at nn
      have nn : rtq (nrm (difR (toR v) c)) * rtq (nrm (difR (toR v) c)) = (o v.1 - o c.1) * (o v.1 - o c.1) + (o v.2 - o c.2) * (o v.2 - o c.2) := nn
      rw [canon_val (nrm_nonneg _), of_int1, far_dot c p, show Real.of ((0 - isq (far c p).toNat : Int) : Rat) = o 0 - o (isq (far c p).toNat : Int) from o_sub .., o_0, w.er]
      have er := w.er
      have rr := w.rr
      have r0 := w.r0
      generalize rtq (nrm (difR (toR v) c)) = n at *
      have rn : r < n := lt_of_sq n0 (by grind) (by grind)
      have np : 0 < n := by grind
      obtain ⟨iv, hiv⟩ := inv_ex np
      obtain ⟨j, hj⟩ := inv_ex (show 0 < n - r by grind)
      have j0 : 0 < j := by
        rcases Real.tri' j 0 with h | h | h
        · have := Real.mul_pos (show 0 < n - r by grind) (show 0 < -j by grind)
          grind
        · rw [h] at hj; grind
        · exact h
      have ft := foot_round hB hf (x := o c.1 + r * (o v.1 - o c.1) * iv) (y := o c.2 + r * (o v.2 - o c.2) * iv) np nn cn (by rw [er]; grind) (by rw [er]; grind)
      have kk : n * j * (1 - r * iv) = 1 := by
        have : n * j * (1 - r * iv) = j * (n - r * (n * iv)) := by grind
        rw [this, hiv]
        grind
      refine ⟨_, _, n * j, ft, Real.mul_pos np j0, ?_, ?_, ?_⟩
      · rw [n1, v1]
        have : n * j * (o c.1 + r * (o v.1 - o c.1) * iv - o v.1) = -(o v.1 - o c.1) * (n * j * (1 - r * iv)) := by grind
        rw [this, kk]
        grind
      · rw [n2, v2]
        have : n * j * (o c.2 + r * (o v.2 - o c.2) * iv - o v.2) = -(o v.2 - o c.2) * (n * j * (1 - r * iv)) := by grind
        rw [this, kk]
        grind
      · have e1 : o v.1 - (o c.1 + r * (o v.1 - o c.1) * iv) = (o v.1 - o c.1) * (1 - r * iv) := by grind
        have e2 : o v.2 - (o c.2 + r * (o v.2 - o c.2) * iv) = (o v.2 - o c.2) * (1 - r * iv) := by grind
        rw [e1, e2]
        have e3 : (o v.1 - o c.1) * (1 - r * iv) * ((o v.1 - o c.1) * (1 - r * iv)) + (o v.2 - o c.2) * (1 - r * iv) * ((o v.2 - o c.2) * (1 - r * iv)) = (n * n) * ((1 - r * iv) * (1 - r * iv)) := by rw [nn]; grind
        rw [e3]
        have e4 : n * (1 - r * iv) = n - r := by grind
        have e5 : (n * n) * ((1 - r * iv) * (1 - r * iv)) = (n * (1 - r * iv)) * (n * (1 - r * iv)) := by grind
        rw [e5, e4]
        grind
    · rw [if_neg (fun z => ha (arc.mpr z)), show dirL (.bow c p q) v = dirC p q v from if_neg ha, val_c0 (byR_nonneg ..)]
      obtain ⟨s, κ, s0, s1, k0, e1, e2, e3⟩ := dirC_foot (v := v) hb.ne (fun s s0 s1 h => hn (by rw [h.1, h.2]; exact chord s s0 s1))
      exact ⟨_, _, κ, chord s s0 s1, k0, e1, e2, e3⟩
theorem nst_same {B : Th} {v : P2} {d : Real} (h : NstX B (o v.1) (o v.2) d) : Nst B (toR v) d := ⟨h.nn, h.lb, h.at_⟩
theorem face_val {B : Th} (hB : GoodTh B) {v : P2} {g : Fc} (hg : g ∈ facesL B) (hs : spX (o v.1) (o v.2) g) : val (distR B (toR v)) = fdX (o v.1) (o v.2) g :=
  nst_uniq (dist_nst hB (toR v)).1 (nst_same (face_nstX hB hg hs).1)
theorem face_off {B : Th} (hB : GoodTh B) {x y : Real} {g : Fc} (hg : g ∈ facesL B) (hs : spX x y g) : ¬ InS B x y := fun h => by
  obtain ⟨nst, dp⟩ := face_nstX hB hg hs
  have l := nst.lb _ _ h
  have := Real.mul_pos dp dp
  grind
theorem dir_face {B : Th} (hB : GoodTh B) {v : P2} {g : Fc} (hg : g ∈ facesL B) (hs : spX (o v.1) (o v.2) g) : ∃ κ : Real, 0 < κ ∧ o (dirL B v).1 = κ * dU v g ∧ o (dirL B v).2 = κ * dV v g := by
  obtain ⟨z, w, κ, hz, k0, e1, e2, e3⟩ := dir_foot hB (face_off hB hg hs)
  obtain ⟨z', w', κ', hz', k0', e1', e2', e3'⟩ := foot_dir hB hg hs
  rw [face_val hB hg hs] at e3
  have nst := (face_nstX hB hg hs).1
  obtain ⟨h1, h2⟩ := near_uniq hB hz hz' (e3.trans e3'.symm) (fun u v h => by rw [e3]; exact nst.lb _ _ h)
  subst h1 h2
  exact ⟨κ * κ', Real.mul_pos k0 k0', by rw [e1, e1']; grind, by rw [e2, e2']; grind⟩
def cornL : Th → List P2
  | .spot p => [p]
  | .cord p q => [p, q]
  | .bow _ p q => [p, q]
def onB : Th → R2 → Prop
  | .spot p, P => nrm (difR P p) = 0
  | .cord p q, P => byR p q P = 0
  | .bow c p q, P => nrm (difR P c) ≤ (dot (dif p c) (dif p c) : Int) ∧ crsR (difR P q) (dif p q) ≤ 0
instance (B : Th) (P : R2) : Decidable (onB B P) := by cases B <;> (unfold onB; infer_instance)
def midL : Th → Th → List Rt
  | .bow c p q, B => if dirL B c ≠ (0, 0) ∧ ¬ onB B (toR c) ∧ inArc c p q (dirL B c) then [⟨(distR B (toR c)).b + ((0 - isq (far c p).toNat : Int) : Rat), (distR B (toR c)).s, (distR B (toR c)).q⟩] else []
  | _, _ => []
def candL (A B : Th) : List Rt := (cornL A).map (fun v => distR B (toR v)) ++ midL A B
theorem corn_mem {A : Th} (hA : GoodTh A) {v f l : P2} (h : Fc.round v 0 f l ∈ facesL A) : v ∈ cornL A := by
  cases A with
  | spot p =>
    simp only [facesL, List.mem_cons, List.not_mem_nil, or_false, Fc.round.injEq] at h
    simp [cornL, h.1]
  | cord p q =>
    simp only [facesL, List.mem_cons, List.not_mem_nil, or_false, Fc.round.injEq, reduceCtorEq, false_or] at h
    rcases h with h | h <;> simp [cornL, h.1]
  | bow c p q =>
    obtain ⟨a, b, d, e, R, r, w⟩ := bw_of hA.2.2.2
    simp only [facesL, List.mem_cons, List.not_mem_nil, or_false, Fc.round.injEq, reduceCtorEq, false_or] at h
    rcases h with h | h | h
    · have er := w.er
      have r0 := w.r0
      rw [← h.2.1, o_0] at er
      grind
    · simp [cornL, h.1]
    · simp [cornL, h.1]
theorem corn_ex {A : Th} {v : P2} (h : v ∈ cornL A) : ∃ f l, Fc.round v 0 f l ∈ facesL A := by
  cases A with
  | spot p =>
    simp only [cornL, List.mem_cons, List.not_mem_nil, or_false] at h
    subst h
    exact ⟨(1, 0), (1, 0), by simp [facesL]⟩
  | cord p q =>
    simp only [cornL, List.mem_cons, List.not_mem_nil, or_false] at h
    rcases h with h | h <;> subst h
    · exact ⟨outw q v, outw v q, by simp [facesL]⟩
    · exact ⟨outw p v, outw v p, by simp [facesL]⟩
  | bow c p q =>
    simp only [cornL, List.mem_cons, List.not_mem_nil, or_false] at h
    rcases h with h | h <;> subst h
    · exact ⟨outw q v, low (dif v c), by simp [facesL]⟩
    · exact ⟨low (dif v c), outw v p, by simp [facesL]⟩
theorem on_val {B : Th} (hB : GoodTh B) {P : R2} (h : onB B P) : val (distR B P) = 0 := by
  have z : val (⟨0, 0, 0⟩ : Rt) = 0 := by rw [val_fr, Real.of_zero]
  cases B with
  | spot p =>
    rw [dist_spot, show nrm (difR P p) = 0 from h, canon_zero]
    exact z
  | cord p q =>
    rw [dist_cord hB, show byR p q P = 0 from h, canon_zero]
    exact z
  | bow c p q =>
    obtain ⟨bc, bp, bq, hb⟩ := id hB
    rw [dist_bow hb bq bp]
    have h : nrm (difR P c) ≤ (dot (dif p c) (dif p c) : Int) ∧ crsR (difR P q) (dif p q) ≤ 0 := h
    unfold bowR
    rw [if_pos h]
    exact z
theorem mid_val (A : Rt) (r : Int) : val ⟨A.b + ((0 - r : Int) : Rat), A.s, A.q⟩ = val A - o r := by
  rw [move_val, show Real.of ((0 - r : Int) : Rat) = o 0 - o r from o_sub .., o_0]
  grind
theorem mid_lb {A B : Th} (hA : GoodTh A) (hB : GoodTh B) {m : Real} (h : ∀ σ ∈ candL A B, m ≤ val σ) : midLB A B m := by
  intro c r f l r0 hf g hg hs hc
  cases A with
  | spot p =>
    simp only [facesL, List.mem_cons, List.not_mem_nil, or_false, Fc.round.injEq] at hf
    omega
  | cord p q =>
    simp only [facesL, List.mem_cons, List.not_mem_nil, or_false, Fc.round.injEq, reduceCtorEq, false_or] at hf
    omega
  | bow k p q =>
    have hb := hA.2.2.2
    simp only [facesL, List.mem_cons, List.not_mem_nil, or_false, Fc.round.injEq, reduceCtorEq, false_or] at hf
    rcases hf with ⟨rfl, rfl, rfl, rfl⟩ | hf | hf
    · obtain ⟨κ, k0, e1, e2⟩ := dir_face hB hg hs
      have arc := (arc_cone hb k0 e1 e2).mpr hc
      have fv := face_val hB hg hs
      obtain ⟨nst, dp⟩ := face_nstX hB hg hs
      have n0 : dirL B c ≠ (0, 0) := fun z => by
        obtain ⟨z', w', κ', hz', k0', e1', e2', e3'⟩ := foot_dir hB hg hs
        rw [z] at e1 e2
        have e1 : o 0 = κ * dU c g := e1
        have e2 : o 0 = κ * dV c g := e2
        rw [o_0] at e1 e2
        have u0 : dU c g = 0 := by
          rcases Real.mul_zero' e1.symm with h | h
          · grind
          · exact h
        have v0 : dV c g = 0 := by
          rcases Real.mul_zero' e2.symm with h | h
          · grind
          · exact h
        rw [u0] at e1'
        rw [v0] at e2'
        have dd := Real.mul_pos dp dp
        rw [← e3', show o c.1 - z' = 0 by grind, show o c.2 - w' = 0 by grind] at dd
        grind
      have off : ¬ onB B (toR c) := fun z => by
        have := on_val hB z
        rw [fv] at this
        grind
      have := h ⟨(distR B (toR c)).b + ((0 - isq (far c p).toNat : Int) : Rat), (distR B (toR c)).s, (distR B (toR c)).q⟩ (List.mem_append.mpr (.inr (by
        show _ ∈ (if _ then _ else _)
        rw [if_pos ⟨n0, off, arc⟩]
        exact List.mem_cons_self ..)))
      rw [mid_val, fv] at this
      exact this
    · omega
    · omega
theorem cand_kind {A B : Th} (hA : GoodTh A) (hB : GoodTh B) (dis : ∀ x y, InS A x y → ¬ InS B x y) (b1 : beyond A B) {σ : Rt} (h : σ ∈ candL A B) : (cornC A B (val σ) ∨ midC A B (val σ)) ∧ Ok σ ∧ Cn σ := by
  rcases List.mem_append.mp h with h | h
  · obtain ⟨v, hv, rfl⟩ := List.mem_map.mp h
    obtain ⟨f, l, hf⟩ := corn_ex hv
    obtain ⟨ok, cn⟩ := dist_ok B (toR v)
    rcases coverX hB (o v.1) (o v.2) with i | ⟨g, hg, hs⟩
    · exact absurd i (dis _ _ (corner_in hA hf))
    · exact ⟨.inl ⟨v, f, l, g, hf, hg, hs, face_val hB hg hs⟩, ok, cn⟩
  · cases A with
    | spot p => cases h
    | cord p q => cases h
    | bow k p q =>
      have hb := hA.2.2.2
      obtain ⟨a, b, d, e, R, r, w⟩ := bw_of hb
      have h : σ ∈ (if dirL B k ≠ (0, 0) ∧ ¬ onB B (toR k) ∧ inArc k p q (dirL B k) then [(⟨(distR B (toR k)).b + ((0 - isq (far k p).toNat : Int) : Rat), (distR B (toR k)).s, (distR B (toR k)).q⟩ : Rt)] else []) := h
      split at h
      · rename_i hc
        obtain ⟨n0, off, arc⟩ := hc
        have e := List.mem_singleton.mp h
        subst e
        have hf : Fc.round k (isq (far k p).toNat) (low (dif p k)) (low (dif q k)) ∈ facesL (.bow k p q) := by simp [facesL]
        have rp : (0 : Int) < isq (far k p).toNat := int_pos.mp (by have := w.r0; rw [← w.er] at this; exact this)
        obtain ⟨ok, cn⟩ := dist_ok B (toR k)
        refine ⟨.inr ?_, move_ok ok, move_cn cn⟩
        rcases coverX hB (o k.1) (o k.2) with i | ⟨g, hg, hs⟩
        · have := b1 _ _ _ _ rp hf _ _ i
          have s := Real.sq_nn (o ((isq (far k p).toNat : Nat) : Int))
          grind
        · obtain ⟨κ, k0, e1, e2⟩ := dir_face hB hg hs
          exact ⟨k, _, _, _, g, rp, hf, hg, hs, (arc_cone hb k0 e1 e2).mp arc, by rw [mid_val, face_val hB hg hs]⟩
      · cases h
theorem corner_lb {A B : Th} (hA : GoodTh A) (hB : GoodTh B) {m : Real} (m0 : 0 ≤ m) (h : ∀ σ ∈ candL A B, m ≤ val σ) : cornerLB A B m := by
  intro v f l hf z w hz
  have l1 := h _ (List.mem_append.mpr (.inl (List.mem_map.mpr ⟨v, corn_mem hA hf, rfl⟩)))
  have l2 := (dist_nst hB (toR v)).1.lb z w hz
  have l2 : val (distR B (toR v)) * val (distR B (toR v)) ≤ (o v.1 - z) * (o v.1 - z) + (o v.2 - w) * (o v.2 - w) := l2
  have := sq_mono m0 l1
  grind
theorem law_least {A B : Th} (hA : GoodTh A) (hB : GoodTh B) (dis : ∀ x y, InS A x y → ¬ InS B x y) (b1 : beyond A B) (b2 : beyond B A) {ρ : Rt} (hρ : ρ ∈ candL A B ++ candL B A) (least : ∀ σ ∈ candL A B ++ candL B A, val ρ ≤ val σ) : apR A B = ρ ∧ apR B A = ρ := by
  have dis' : ∀ x y, InS B x y → ¬ InS A x y := fun x y h1 h2 => dis x y h2 h1
  have l1 : ∀ σ ∈ candL A B, val ρ ≤ val σ := fun σ h => least σ (List.mem_append.mpr (.inl h))
  have l2 : ∀ σ ∈ candL B A, val ρ ≤ val σ := fun σ h => least σ (List.mem_append.mpr (.inr h))
  have kind : (cornC A B (val ρ) ∨ cornC B A (val ρ) ∨ midC A B (val ρ) ∨ midC B A (val ρ)) ∧ Ok ρ ∧ Cn ρ ∧ 0 < val ρ := by
    rcases List.mem_append.mp hρ with h | h
    · obtain ⟨h | h, ok, cn⟩ := cand_kind hA hB dis b1 h
      · exact ⟨.inl h, ok, cn, (cornC_att hA hB h).1⟩
      · exact ⟨.inr (.inr (.inl h)), ok, cn, (midC_att hA hB b1 h).1⟩
    · obtain ⟨h | h, ok, cn⟩ := cand_kind hB hA dis' b2 h
      · exact ⟨.inr (.inl h), ok, cn, (cornC_att hB hA h).1⟩
      · exact ⟨.inr (.inr (.inr h)), ok, cn, (midC_att hB hA b2 h).1⟩
  obtain ⟨kind, ok, cn, pos⟩ := kind
  exact ap_law hA hB dis b1 b2 ok cn (corner_lb hA hB (by grind) l1) (corner_lb hB hA (by grind) l2) (mid_lb hA hB l1) (mid_lb hB hA l2) kind
end Rs

namespace Ld.Lt
open PySem PySem.Spec PyProof.Rows L2 Bl Lb Rl Rs
theorem lmoved_spec {T : Th} {i j : Int} {S : Sto} {Q : DK} {E : EK} (k : Q (thD (mvT (.shift (i, j)) T)) S) : m_l_moved [thD T, .int i, .int j] S Q E := by
  refine e_l_moved ?_
  unfold t_l_moved
  cases T with
  | spot p =>
    rw [show thD (.spot p) = .tup [.str "spot", pt p] from rfl]
    walk_at "bl"
    exact k
  | cord p q =>
    rw [show thD (.cord p q) = .tup [.str "cord", pt p, pt q] from rfl]
    walk_at "bl"
    exact k
  | bow c p q =>
    rw [show thD (.bow c p q) = .tup [.str "bow", pt c, pt p, pt q] from rfl]
    walk_at "bl"
    exact k
theorem lst_tup {ds : List D} {S : Sto} {Q : DK} (k : Q (.lst ds) S) : bLst [.tup ds] S Q := k
theorem ints_map : ∀ xs : List Int, intsOf (xs.map D.int) = some xs
  | [] => rfl
  | x :: xs => by
    show (intsOf (xs.map D.int)).map (x :: ·) = _
    rw [ints_map xs]
    rfl
theorem min_l {xs : List Int} {S : Sto} {Q : DK} (h0 : 0 < xs.length) (k : ∀ m ∈ xs, (∀ y ∈ xs, m ≤ y) → Q (.int m) S) : bMinL [.lst (xs.map D.int)] S Q := by
  unfold bMinL
  dsimp only
  rw [ints_map]
  exact ⟨h0, fun m a b => k m a b⟩
theorem max_l {xs : List Int} {S : Sto} {Q : DK} (h0 : 0 < xs.length) (k : ∀ m ∈ xs, (∀ y ∈ xs, y ≤ m) → Q (.int m) S) : bMaxL [.lst (xs.map D.int)] S Q := by
  unfold bMaxL
  dsimp only
  rw [ints_map]
  exact ⟨h0, fun m a b => k m a b⟩
structure BoxOk (T : Th) (a b c d : Int) : Prop where
  ma : a ∈ (boxL T).map (·.1)
  mb : b ∈ (boxL T).map (·.1)
  mc : c ∈ (boxL T).map (·.2)
  md : d ∈ (boxL T).map (·.2)
  la : ∀ y ∈ (boxL T).map (·.1), a ≤ y
  lb : ∀ y ∈ (boxL T).map (·.1), y ≤ b
  lc : ∀ y ∈ (boxL T).map (·.2), c ≤ y
  ld : ∀ y ∈ (boxL T).map (·.2), y ≤ d
theorem box_flat {T : Th} {S : Sto} {Q : DK} {E : EK} (hf : ∀ c p q, T ≠ .bow c p q) (k : ∀ a b c d, BoxOk T a b c d → Q (.tup [.int a, .int b, .int c, .int d]) S) : m_l_box [thD T] S Q E := by
  refine e_l_box ?_
  unfold t_l_box
  cases T with
  | spot p =>
    rw [show thD (.spot p) = .tup [.str "spot", pt p] from rfl]
    walk_at "bl"
    refine lst_tup ?_
    walk_at "bl"
    refine min_l (xs := (boxL (.spot p)).map (·.1)) (by simp [boxL]) fun a ma la => ?_
    walk_at "bl"
    refine max_l (xs := (boxL (.spot p)).map (·.1)) (by simp [boxL]) fun b mb lb => ?_
    walk_at "bl"
    refine min_l (xs := (boxL (.spot p)).map (·.2)) (by simp [boxL]) fun c mc lc => ?_
    walk_at "bl"
    refine max_l (xs := (boxL (.spot p)).map (·.2)) (by simp [boxL]) fun d md ld => ?_
    walk_at "bl"
    exact k a b c d ⟨ma, mb, mc, md, la, lb, lc, ld⟩
  | cord p q =>
    rw [show thD (.cord p q) = .tup [.str "cord", pt p, pt q] from rfl]
    walk_at "bl"
    refine lst_tup ?_
    walk_at "bl"
    refine min_l (xs := (boxL (.cord p q)).map (·.1)) (by simp [boxL]) fun a ma la => ?_
    walk_at "bl"
    refine max_l (xs := (boxL (.cord p q)).map (·.1)) (by simp [boxL]) fun b mb lb => ?_
    walk_at "bl"
    refine min_l (xs := (boxL (.cord p q)).map (·.2)) (by simp [boxL]) fun c mc lc => ?_
    walk_at "bl"
    refine max_l (xs := (boxL (.cord p q)).map (·.2)) (by simp [boxL]) fun d md ld => ?_
    walk_at "bl"
    exact k a b c d ⟨ma, mb, mc, md, la, lb, lc, ld⟩
  | bow c p q => exact absurd rfl (hf c p q)
theorem add32 {a b c d e : D} {S : Sto} {Q : DK} (k : Q (.lst [a, b, c, d, e]) S) : fCat (.lst [a, b, c]) (.lst [d, e]) S Q := ⟨(by decide : 5 ≤ sizeLine), k⟩
theorem box_spec {T : Th} {S : Sto} {Q : DK} {E : EK} (hT : GoodTh T) (k : ∀ a b c d, BoxOk T a b c d → Q (.tup [.int a, .int b, .int c, .int d]) S) : m_l_box [thD T] S Q E := by
  cases T with
  | spot p => exact box_flat (fun _ _ _ z => by cases z) k
  | cord p q => exact box_flat (fun _ _ _ z => by cases z) k
  | bow c p q =>
    obtain ⟨hc, hp, hq, _⟩ := hT
    obtain ⟨d1, d2⟩ := sm_dif hp hc
    refine e_l_box ?_
    unfold t_l_box
    rw [show thD (.bow c p q) = .tup [.str "bow", pt c, pt p, pt q] from rfl]
    walk_at "bl"
    refine lst_tup ?_
    walk_at "bl"
    refine minus_spec ?_
    walk_at "bl"
    refine minus_spec ?_
    walk_at "bl"
    refine ldot_spec (a := dif p c) (b := dif p c) d1 d2 d1 d2 (by omega) ?_
    walk_at "bl"
    refine rooted_spec (dot_nonneg _) (sm_dot d1 d2 d1 d2) (by omega) ?_
    rw [show dot (dif p c) (dif p c) = far c p by rw [far_eq]; unfold dot dif; grind]
    walk_at "bl"
    refine add32 ?_
    walk_at "bl"
    refine min_l (xs := (boxL (.bow c p q)).map (·.1)) (by simp [boxL]) fun a ma la => ?_
    walk_at "bl"
    refine max_l (xs := (boxL (.bow c p q)).map (·.1)) (by simp [boxL]) fun b mb lb => ?_
    walk_at "bl"
    refine min_l (xs := (boxL (.bow c p q)).map (·.2)) (by simp [boxL]) fun e me le => ?_
    walk_at "bl"
    refine max_l (xs := (boxL (.bow c p q)).map (·.2)) (by simp [boxL]) fun d md ld => ?_
    walk_at "bl"
    exact k a b e d ⟨ma, mb, me, md, la, lb, le, ld⟩
end Ld.Lt

namespace Ld.Lt
open PySem PySem.Spec PyProof.Rows L2 Bl Lb Rl Rs
/-! the second thing moved off -/
theorem box_mv (t : P2) (T : Th) : boxL (mvT (.shift t) T) = (boxL T).map (mvP (.shift t)) := by
  cases T with
  | spot p => rfl
  | cord p q => rfl
  | bow c p q =>
    show boxL (.bow (mvP (.shift t) c) (mvP (.shift t) p) (mvP (.shift t) q)) = _
    unfold boxL
    dsimp only
    rw [far_mv]
    simp only [List.map_cons, List.map_nil, List.cons.injEq, true_and, and_true]
    unfold mvP
    dsimp only
    exact ⟨Prod.ext (by dsimp only; omega) (by dsimp only; omega), Prod.ext (by dsimp only; omega) (by dsimp only; omega)⟩
theorem sq_small {x : Int} {m : Nat} (h : x.natAbs ≤ m) : x * x ≤ ((m * m : Nat) : Int) := by
  rw [← Int.natAbs_mul_self]
  exact Int.ofNat_le.mpr (Nat.mul_le_mul h h)
theorem box_in {T : Th} (hi : TIn 84 T) : ∀ p ∈ boxL T, PIn 330 p := by
  cases T with
  | spot p =>
    intro x hx
    simp only [boxL, List.mem_cons, List.not_mem_nil, or_false] at hx
    subst hx
    exact ⟨Nat.le_trans hi.1 (by decide), Nat.le_trans hi.2 (by decide)⟩
  | cord p q =>
    intro x hx
    simp only [boxL, List.mem_cons, List.not_mem_nil, or_false] at hx
    rcases hx with h | h <;> subst h
    · exact ⟨Nat.le_trans hi.1.1 (by decide), Nat.le_trans hi.1.2 (by decide)⟩
    · exact ⟨Nat.le_trans hi.2.1 (by decide), Nat.le_trans hi.2.2 (by decide)⟩
  | bow c p q =>
    intro x hx
    obtain ⟨⟨c1, c2⟩, ⟨p1, p2⟩, ⟨q1, q2⟩⟩ := hi
    have r1 : isq (far c p).toNat ≤ 240 := by
      obtain ⟨e, _⟩ := isq_spec (far c p).toNat
      have f0 := far_nonneg c p
      have f1 : far c p ≤ ((168 * 168 : Nat) : Int) + ((168 * 168 : Nat) : Int) := by
        rw [far_eq]
        have a1 := sq_small (show (c.1 - p.1).natAbs ≤ 168 by omega)
        have a2 := sq_small (show (c.2 - p.2).natAbs ≤ 168 by omega)
        omega
      rcases Nat.lt_or_ge 240 (isq (far c p).toNat) with z | z
      · exfalso
        have := Nat.mul_le_mul (show 241 ≤ isq (far c p).toNat from z) (show 241 ≤ isq (far c p).toNat from z)
        omega
      · exact z
    simp only [boxL, List.mem_cons, List.not_mem_nil, or_false] at hx
    rcases hx with h | h | h | h | h <;> subst h
    · exact ⟨by omega, by omega⟩
    · exact ⟨by omega, by omega⟩
    · exact ⟨by omega, by omega⟩
    · exact ⟨by dsimp only; omega, by dsimp only; omega⟩
    · exact ⟨by dsimp only; omega, by dsimp only; omega⟩
theorem tens3 {d : Int} (h0 : 0 ≤ d) (h1 : d < 3) : ∃ p : Int, 0 < p ∧ p ≤ 90 ∧ atI [D.int 1, .int 4, .int 90] d = some (.int p) := by
  rcases (by omega : d = (0 : Nat) ∨ d = (1 : Nat) ∨ d = (2 : Nat)) with h | h | h <;> subst h <;> exact ⟨_, by decide, by decide, atI_nat rfl⟩
theorem pts_tin {m : Nat} {T : Th} (h : TIn m T) : ∀ p ∈ ptsOf T, PIn m p := by
  cases T with
  | spot p =>
    intro x hx
    simp only [ptsOf, List.mem_cons, List.not_mem_nil, or_false] at hx
    subst hx; exact h
  | cord p q =>
    intro x hx
    simp only [ptsOf, List.mem_cons, List.not_mem_nil, or_false] at hx
    rcases hx with e | e <;> subst e
    · exact h.1
    · exact h.2
  | bow c p q =>
    intro x hx
    simp only [ptsOf, List.mem_cons, List.not_mem_nil, or_false] at hx
    rcases hx with e | e | e <;> subst e
    · exact h.1
    · exact h.2.1
    · exact h.2.2
theorem good_mv {T : Th} (hT : GoodTh T) (hi : TIn 84 T) {i j : Int} (h1 : i.natAbs ≤ 900) (h2 : j.natAbs ≤ 900) : GoodTh (mvT (.shift (i, j)) T) := by
  refine good_shift hT fun p hp => ?_
  obtain ⟨a, b⟩ := pts_tin hi p hp
  exact ⟨by show (p.1 + i).natAbs ≤ 1000; omega, by show (p.2 + j).natAbs ≤ 1000; omega⟩
theorem off_spec {a : Addr} {A B : Th} {S : Sto} {Q : DK} {E : EK} (hb : Bg S a) (hA : GoodTh A) (hB : GoodTh B) (iA : TIn 84 A) (iB : TIn 84 B) (k : ∀ t S', Bg S' a → GoodTh (mvT (.shift t) B) → sepd A (mvT (.shift t) B) → Q (thD (mvT (.shift t) B)) S') : m_l_off [.ref a, thD A, thD B] S Q E := by
  refine e_l_off ?_
  unfold t_l_off
  walk_at "bl"
  refine box_spec hA fun a1 a2 a3 a4 bA => ?_
  walk_at "bl"
  refine box_spec hB fun b1 b2 b3 b4 bB => ?_
  walk_at "bl"
  have in1 : ∀ {x : Int} {T : Th}, TIn 84 T → x ∈ (boxL T).map (·.1) → x.natAbs ≤ 330 := fun h hx => by
    obtain ⟨p, hp, rfl⟩ := List.mem_map.mp hx
    exact (box_in h p hp).1
  have in2 : ∀ {x : Int} {T : Th}, TIn 84 T → x ∈ (boxL T).map (·.2) → x.natAbs ≤ 330 := fun h hx => by
    obtain ⟨p, hp, rfl⟩ := List.mem_map.mp hx
    exact (box_in h p hp).2
  have l2 := in1 iA bA.mb
  have l1 := in1 iB bB.ma
  have l4 := in2 iA bA.md
  have l3 := in2 iB bB.mc
  have fin : ∀ (i j : Int) (S' : Sto) (_ : Bg S' a), i.natAbs ≤ 900 → j.natAbs ≤ 900 → (a2 - b1 < i ∨ a4 - b3 < j) → Q (thD (mvT (.shift (i, j)) B)) S' := fun i j S' hb' h1 h2 h3 => by
    refine k (i, j) S' hb' (good_mv hB iB h1 h2) ?_
    rcases h3 with h3 | h3
    · refine ⟨a2, b1 + i, by omega, .inl ⟨fun p hp => bA.lb _ (List.mem_map.mpr ⟨p, hp, rfl⟩), fun p hp => ?_⟩⟩
      rw [box_mv] at hp
      obtain ⟨q, hq, rfl⟩ := List.mem_map.mp hp
      have := bB.la _ (List.mem_map.mpr ⟨q, hq, rfl⟩)
      show b1 + i ≤ q.1 + i
      omega
    · refine ⟨a4, b3 + j, by omega, .inr ⟨fun p hp => bA.ld _ (List.mem_map.mpr ⟨p, hp, rfl⟩), fun p hp => ?_⟩⟩
      rw [box_mv] at hp
      obtain ⟨q, hq, rfl⟩ := List.mem_map.mp hp
      have := bB.lc _ (List.mem_map.mpr ⟨q, hq, rfl⟩)
      show b3 + j ≤ q.2 + j
      omega
  refine Ld.take_spec hb (by decide) (sm_k (by decide)) fun d1 S1 x0 x1 hb1 _ => ?_
  obtain ⟨p, p0, p1, ep⟩ := tens3 x0 x1
  refine Go.ixL ep ?_
  walk_at "bl"
  refine Ld.take_spec hb1 p0 (sm_k (by omega)) fun d2 S2 y0 y1 hb2 _ => ?_
  walk_at "bl"
  refine Ld.take_spec hb2 (by decide) (sm_k (by decide)) fun d3 S3 z0 z1 hb3 _ => ?_
  obtain ⟨q, q0, q1, eq⟩ := tens3 z0 z1
  refine Go.ixL eq ?_
  walk_at "bl"
  refine Ld.take_spec hb3 q0 (sm_k (by omega)) fun d4 S4 v0 v1 hb4 _ => ?_
  walk_at "bl"
  refine Ld.take_spec hb4 (by decide) (sm_k (by decide)) fun w S5 w0 w1 hb5 _ => ?_
  walk_at "bl"
  refine Go.ifD (fun h1 => ?_) fun h1 => ?_
  · subst h1
    walk_at "bl"
    refine Ld.take_spec hb5 (by decide) (sm_k (by decide)) fun d5 S6 u0 u1 hb6 _ => ?_
    walk_at "bl"
    refine Go.ifDF (by decide) ?_
    walk_at "bl"
    refine lmoved_spec ?_
    exact fin _ _ _ hb6 (by omega) (by omega) (.inl (by omega))
  · walk_at "bl"
    refine Go.ifD (fun h2 => ?_) fun h2 => ?_
    · subst h2
      walk_at "bl"
      refine Ld.take_spec hb5 (by decide) (sm_k (by decide)) fun d5 S6 u0 u1 hb6 _ => ?_
      walk_at "bl"
      refine lmoved_spec ?_
      exact fin _ _ _ hb6 (by omega) (by omega) (.inr (by omega))
    · walk_at "bl"
      refine lmoved_spec ?_
      exact fin _ _ _ hb5 (by omega) (by omega) (.inl (by omega))
/-! sizes -/
theorem dirC_sm {p q v : P2} (hp : Bd p) (hq : Bd q) (hv : Bd v) : sm 12 (dirC p q v).1 ∧ sm 12 (dirC p q v).2 := by
  obtain ⟨a1, a2⟩ := sm_dif hv hp
  obtain ⟨b1, b2⟩ := sm_dif hq hv
  obtain ⟨d1, d2⟩ := sm_dif hq hp
  unfold dirC
  split
  · exact neg2_sm a1 a2
  · split
    · exact ⟨b1, b2⟩
    · split
      · exact ⟨d2, (neg2_sm d1 d2).1⟩
      · exact ⟨(neg2_sm d1 d2).2, d1⟩
theorem dirL_sm {B : Th} {v : P2} (hB : GoodTh B) (hv : Bd v) : sm 12 (dirL B v).1 ∧ sm 12 (dirL B v).2 := by
  cases B with
  | spot p => exact sm_dif hB hv
  | cord p q => exact dirC_sm hB.1 hB.2.1 hv
  | bow c p q =>
    obtain ⟨hc, hp, hq, _⟩ := hB
    obtain ⟨a1, a2⟩ := sm_dif hv hc
    show sm 12 (if _ then _ else _ : P2).1 ∧ sm 12 (if _ then _ else _ : P2).2
    split
    · exact neg2_sm a1 a2
    · exact dirC_sm hp hq hv
theorem fd_small {v : P2} {f : Fc} (hv : Bd v) (hf : FcGood 12 f) : sr 100 (fdR (toR v) f).b ∧ sr 100 (fdR (toR v) f).q := by
  cases f with
  | side a b =>
    obtain ⟨hne, ha, hb, hw⟩ := hf
    have o := outw_ok hne ha hb hw
    have l0 := lenq_pos o.ne
    have ls := lenq_sm o.s1 o.s2
    obtain ⟨s1, s2⟩ := sm_dif hv ha
    refine ⟨?_, sr.zero.mono (by decide : 1 ≤ 100)⟩
    show sr 100 (heightR (toR v) a b / ((lenq (outw a b) : Int) : Rat))
    rw [height_int]
    have z := low_sm (n := 50) (m := 50) (r := ((dot (dif v a) (outw a b) : Int) : Rat) / ((lenq (outw a b) : Int) : Rat)) (show (lenq (outw a b) : Int) ≠ 0 by omega) (Rat.div_mul_cancel (castne (by omega))) ((sm_dot s1 s2 o.s1 o.s2).mono (by decide)) (ls.mono (by decide))
    exact ⟨z.1.mono (by decide), z.2.mono (by decide)⟩
  | round c r f l =>
    obtain ⟨_, _, hc, hr0, hr⟩ := hf
    obtain ⟨s1, s2⟩ := sm_dif hv hc
    obtain ⟨x, y, _⟩ := canon_sr (b := ((0 - r : Int) : Rat)) (s := 1) (n := 40) (m := 40) (sr.int (((sm.of (n := 25) (by decide)).sub hr).mono (by decide)) (by decide)) (q := nrm (difR (toR v) c)) (by rw [nrm_int]; exact sr.int ((sm_dot s1 s2 s1 s2).mono (by decide)) (by decide)) (nrm_nonneg _) (.inr (.inr rfl))
    exact ⟨x.mono (by decide), y.mono (by decide)⟩
theorem dist_small {B : Th} {v : P2} (hB : GoodTh B) (hv : Bd v) : sr 100 (distR B (toR v)).b ∧ sr 100 (distR B (toR v)).q := by
  unfold distR
  cases h : firstR B (toR v) with
  | none => exact ⟨sr.zero.mono (by decide : 1 ≤ 100), sr.zero.mono (by decide : 1 ≤ 100)⟩
  | some f => exact fd_small hv (faces_good hB f (List.mem_of_find?_eq_some h))
theorem corn_bd {A : Th} (hA : GoodTh A) {v : P2} (h : v ∈ cornL A) : Bd v := by
  cases A with
  | spot p =>
    simp only [cornL, List.mem_cons, List.not_mem_nil, or_false] at h
    subst h; exact hA
  | cord p q =>
    simp only [cornL, List.mem_cons, List.not_mem_nil, or_false] at h
    rcases h with h | h <;> subst h
    · exact hA.1
    · exact hA.2.1
  | bow c p q =>
    simp only [cornL, List.mem_cons, List.not_mem_nil, or_false] at h
    rcases h with h | h <;> subst h
    · exact hA.2.1
    · exact hA.2.2.1
theorem rad_sm {c p : P2} (hc : Bd c) (hp : Bd p) : sr 40 (((0 - isq (far c p).toNat : Int)) : Rat) :=
  sr.int ((((sm.of (n := 25) (by decide)).sub (isq_sm (far_nonneg c p) (sm_far hc hp)))).mono (by decide)) (by decide)
structure Cd (x : Rt) : Prop where
  ok : Ok x
  b : sr 150 x.b
  q : sr 150 x.q
theorem cand_cd {A B : Th} (hA : GoodTh A) (hB : GoodTh B) : ∀ x ∈ candL A B, Cd x := by
  intro x hx
  rcases List.mem_append.mp hx with h | h
  · obtain ⟨v, hv, rfl⟩ := List.mem_map.mp h
    obtain ⟨s1, s2⟩ := dist_small hB (corn_bd hA hv)
    exact ⟨(dist_ok B (toR v)).1, s1.mono (by decide), s2.mono (by decide)⟩
  · cases A with
    | spot p => cases h
    | cord p q => cases h
    | bow k p q =>
      have h : x ∈ (if dirL B k ≠ (0, 0) ∧ ¬ onB B (toR k) ∧ inArc k p q (dirL B k) then [(⟨(distR B (toR k)).b + ((0 - isq (far k p).toNat : Int) : Rat), (distR B (toR k)).s, (distR B (toR k)).q⟩ : Rt)] else []) := h
      split at h
      · have e := List.mem_singleton.mp h
        subst e
        obtain ⟨s1, s2⟩ := dist_small hB hA.1
        exact ⟨move_ok (dist_ok B (toR k)).1, (s1.add (rad_sm hA.1 hA.2.1)).mono (by decide), s2.mono (by decide)⟩
      · cases h
theorem cand_len (A B : Th) : (candL A B).length ≤ 3 := by
  unfold candL
  rw [List.length_append, List.length_map]
  cases A with
  | spot p => show 1 + 0 ≤ 3; decide
  | cord p q => show 2 + 0 ≤ 3; decide
  | bow c p q =>
    show 2 + (if _ then _ else _ : List Rt).length ≤ 3
    split
    · show 2 + 1 ≤ 3; decide
    · show 2 + 0 ≤ 3; decide
theorem on_all {t : Th} {P : R2} {n : Nat} {S : Sto} {Q : DK} {E : EK} (ht : GoodTh t) (hP : PR n P) (hn : n ≤ 150) (k : Q (.bl (decide (onB t P))) S) : m_l_is_on [thD t, plD P] S Q E := by
  cases t with
  | spot p => exact on_spot ht hP hn (by rw [show decide (nrm (difR P p) = 0) = decide (onB (.spot p) P) by rw [decide_eq_decide]; exact Iff.rfl]; exact k)
  | cord p q => exact on_cord ht.1 ht.2.1 ht.2.2.1 hP hn (by rw [show decide (byR p q P = 0) = decide (onB (.cord p q) P) by rw [decide_eq_decide]; exact Iff.rfl]; exact k)
  | bow c p q => exact on_spec ht.1 ht.2.1 ht.2.2.1 hP hn (by rw [show decide (nrm (difR P c) ≤ (dot (dif p c) (dif p c) : Int) ∧ crsR (difR P q) (dif p q) ≤ 0) = decide (onB (.bow c p q) P) by rw [decide_eq_decide]; exact Iff.rfl]; exact k)
end Ld.Lt

namespace Ld.Lt
open PySem PySem.Spec PyProof.Rows L2 Bl Lb Rl Rs
/-! the law's least candidate -/
theorem iv2 {l : Ev} {S : Sto} {Q : List D → Sto → Prop} {E : EK} {a b : D} (k : Q [.tup [a, b], .tup [b, a]] S) : iVal (dTup (aCons (dTup (aCons (vr 0) (aCons (vr 1) (aNil)))) (aCons (dTup (aCons (vr 1) (aCons (vr 0) (aNil)))) (aNil)))) (some a :: some b :: l) S Q E := by
  walk_at "bl"
  exact k
theorem ne_pt' {a b : P2} {S : Sto} {Q : DK} (k : Q (.bl (!decide (a = b))) S) : fNe (pt a) (pt b) S Q := ⟨ok_pt _, ok_pt _, by rw [pt_eq]; exact k⟩
theorem up_none {S S1 : Sto} (h : Up S S1) {c : Addr} (n : S1 c = none) : S c = none := by
  cases e : S c with
  | none => rfl
  | some x =>
    have := h c (by rw [e]; simp)
    rw [this, e] at n
    cases n
theorem corn_ne (A : Th) : ∃ v l, cornL A = v :: l := by
  cases A <;> exact ⟨_, _, rfl⟩
theorem apart_law {A B : Th} {S : Sto} {Q : DK} {E : EK} (hA : GoodTh A) (hB : GoodTh B) (k : ∀ ρ S', Up S S' → ρ ∈ candL A B ++ candL B A → (∀ σ ∈ candL A B ++ candL B A, val ρ ≤ val σ) → Q (rt ρ) S') : m_l_apart [thD A, thD B] S Q E := by
  refine e_l_apart ?_
  unfold t_l_apart
  refine Go.seq ?_
  refine Go.asg ?_
  refine Go.lstR ?_
  refine Go.nil ?_
  refine Go.lstRK' rfl fun c hc => ?_
  refine Go.set2 ?_
  refine Go.seq ?_
  refine Go.for' ?_
  refine iv2 ?_
  refine forD_map (f := fun p : Th × Th => D.tup [thD p.1, thD p.2]) (fun ps e s => ∃ (c : Addr) (fs : List Rt) (o3 o4 o5 o6 o7 o8 o9 o10 o11 o12 : Option D), e = [some (thD A), some (thD B), some (.ref c), o3, o4, o5, o6, o7, o8, o9, o10, o11, o12] ∧ Up S s ∧ S c = none ∧ s c = some (fs.map rt) ∧ fs ++ (ps.flatMap fun p => candL p.1 p.2) = candL A B ++ candL B A ∧ ∀ p ∈ ps, GoodTh p.1 ∧ GoodTh p.2) ?_ ?_ [(A, B), (B, A)] ⟨c, [], _, _, _, _, _, _, _, _, _, _, rfl, (Up.refl S).sup hc, hc, sup_same, by simp, fun p hp => by
    simp only [List.mem_cons, List.not_mem_nil, or_false] at hp
    rcases hp with h | h <;> subst h
    · exact ⟨hA, hB⟩
    · exact ⟨hB, hA⟩⟩
  · rintro ⟨F, G⟩ ps e s ⟨c, fs, o3, o4, o5, o6, o7, o8, o9, o10, o11, o12, rfl, hu, hc0, hsc, hall, hg⟩
    obtain ⟨hF, hG⟩ := hg _ (List.mem_cons_self ..)
    have hF : GoodTh F := hF
    have hG : GoodTh G := hG
    refine ⟨_, rfl, fun N' hnx _ _ _ _ => ?_⟩
    show sSeq _ _ [some (thD A), some (thD B), some (.ref c), some (thD F), some (thD G), o5, o6, o7, o8, o9, o10, o11, o12] _ _
    have len : fs.length ≤ 6 := by
      have e := congrArg List.length hall
      rw [List.length_append, List.length_append] at e
      have := cand_len A B
      have := cand_len B A
      omega
    have nxt : ∀ (c2 : Addr) (s2 : Sto) (fs2 : List Rt) (o5 o6 o7 o8 o9 o10 o11 o12 : Option D), Up S s2 → S c2 = none → s2 c2 = some (fs2.map rt) → fs2 = fs ++ candL F G → N'.nx [some (thD A), some (thD B), some (.ref c2), some (thD F), some (thD G), o5, o6, o7, o8, o9, o10, o11, o12] s2 := fun c2 s2 fs2 o5 o6 o7 o8 o9 o10 o11 o12 u2 n2 h2 e2 =>
      hnx _ _ ⟨c2, fs2, _, _, _, _, _, _, _, _, _, _, rfl, u2, n2, h2, by rw [e2, ← hall, List.flatMap_cons, List.append_assoc], fun p hp => hg p (List.mem_cons_of_mem _ hp)⟩
    cases F with
    | spot p =>
      rw [show thD (.spot p) = .tup [.str "spot", pt p] from rfl]
      walk_at "bl"
      refine reach_spec hG hF ?_
      walk_at "bl"
      unfold fCatG
      dsimp only
      rw [hsc]
      refine ⟨Nat.le_trans (show (fs.map rt).length + 1 ≤ 10 by rw [List.length_map]; omega) (by decide), fun c2 hc2 => ?_⟩
      walk_at "bl"
      exact nxt c2 _ (fs ++ [distR G (toR p)]) _ _ _ _ _ _ _ _ (hu.sup (up_none hu hc2)) (up_none hu hc2) (by rw [sup_same, List.map_append]; rfl) rfl
    | cord p q =>
      rw [show thD (.cord p q) = .tup [.str "cord", pt p, pt q] from rfl]
      walk_at "bl"
      refine reach_spec hG hF.1 ?_
      walk_at "bl"
      refine reach_spec hG hF.2.1 ?_
      walk_at "bl"
      unfold fCatG
      dsimp only
      rw [hsc]
      refine ⟨Nat.le_trans (show (fs.map rt).length + 2 ≤ 10 by rw [List.length_map]; omega) (by decide), fun c2 hc2 => ?_⟩
      walk_at "bl"
      exact nxt c2 _ (fs ++ [distR G (toR p), distR G (toR q)]) _ _ _ _ _ _ _ _ (hu.sup (up_none hu hc2)) (up_none hu hc2) (by rw [sup_same, List.map_append]; rfl) rfl
    | bow m p q =>
      obtain ⟨hm, hp, hq, hb⟩ := id hF
      obtain ⟨d1, d2⟩ := sm_dif hp hm
      rw [show thD (.bow m p q) = .tup [.str "bow", pt m, pt p, pt q] from rfl]
      walk_at "bl"
      refine reach_spec hG hp ?_
      walk_at "bl"
      refine reach_spec hG hq ?_
      walk_at "bl"
      unfold fCatG
      dsimp only
      rw [hsc]
      refine ⟨Nat.le_trans (show (fs.map rt).length + 2 ≤ 10 by rw [List.length_map]; omega) (by decide), fun c2 hc2 => ?_⟩
      have u2 := hu.sup (ds := fs.map rt ++ [rt (distR G (toR p)), rt (distR G (toR q))]) (up_none hu hc2)
      have n2 := up_none hu hc2
      have e2 : sup s c2 (fs.map rt ++ [rt (distR G (toR p)), rt (distR G (toR q))]) c2 = some (fs.map rt ++ [rt (distR G (toR p)), rt (distR G (toR q))]) := sup_same
      have skip : ∀ (o5 o6 o7 o8 o9 o10 o11 o12 : Option D), midL (.bow m p q) G = [] → N'.nx [some (thD A), some (thD B), some (.ref c2), some (thD (.bow m p q)), some (thD G), o5, o6, o7, o8, o9, o10, o11, o12] (sup s c2 (fs.map rt ++ [rt (distR G (toR p)), rt (distR G (toR q))])) := fun o5 o6 o7 o8 o9 o10 o11 o12 h => nxt c2 _ (fs ++ [distR G (toR p), distR G (toR q)]) _ _ _ _ _ _ _ _ u2 n2 (by rw [e2, List.map_append]; rfl) (by
          unfold candL
          rw [h, List.append_nil]
          rfl)
      walk_at "bl"
      refine reach_spec hG hm ?_
      walk_at "bl"
      refine minus_spec ?_
      walk_at "bl"
      refine minus_spec ?_
      walk_at "bl"
      refine ldot_spec (a := dif p m) (b := dif p m) d1 d2 d1 d2 (by omega) ?_
      walk_at "bl"
      rw [far_dot]
      refine rooted_spec (far_nonneg m p) (sm_far hm hp) (by omega) ?_
      walk_at "bl"
      refine ne_pt' (b := (0, 0)) ?_
      walk_at "bl"
      obtain ⟨s1, s2⟩ := dist_small hG hm
      refine Go.ifD (fun h1 => ?_) fun h1 => ?_
      · walk_at "bl"
        exact skip _ _ _ _ _ _ _ _ (if_neg fun z => z.1 h1)
      walk_at "bl"
      rw [pl_pt]
      refine on_all hG (pr_bd hm) (by decide) ?_
      walk_at "bl"
      refine Go.ifD (fun h2 => ?_) fun h2 => ?_
      · walk_at "bl"
        exact skip _ _ _ _ _ _ _ _ (if_neg fun z => z.2.1 h2)
      walk_at "bl"
      obtain ⟨w1, w2⟩ := dirL_sm hG hm
      refine in_arc_spec hm hp hq w1 w2 ?_
      walk_at "bl"
      refine Go.ifD (fun h3 => ?_) fun h3 => ?_
      case' refine_2 =>
        walk_at "bl"
        exact skip _ _ _ _ _ _ _ _ (if_neg fun z => h3 z.2.2)
      walk_at "bl"
      refine appG rfl e2 ?_
      walk_at "bl"
      refine sum2_spec (n := 100) (b := ((0 - isq (far m p).toNat : Int) : Rat)) (by rw [Rat.num_intCast]) (by rw [Rat.den_intCast]; rfl) s1 ((rad_sm hm hp).mono (by decide)) (by decide) ?_
      walk_at "bl"
      refine appK e2 (Nat.ble_eq_true_of_le (Nat.le_trans (show _ ≤ 10 by rw [List.length_append, List.length_map]; show fs.length + 2 ≤ 10; omega) (by decide))) ?_
      walk_at "bl"
      refine nxt c2 _ (fs ++ [distR G (toR p), distR G (toR q)] ++ [⟨(distR G (toR m)).b + ((0 - isq (far m p).toNat : Int) : Rat), (distR G (toR m)).s, (distR G (toR m)).q⟩]) _ _ _ _ _ _ _ _ (u2.sup n2) n2 (by rw [sup_same, List.map_append, List.map_append]; rfl) ?_
      rw [List.append_assoc]
      congr 1
      show _ = [distR G (toR p), distR G (toR q)] ++ midL (.bow m p q) G
      rw [show midL (.bow m p q) G = [⟨(distR G (toR m)).b + ((0 - isq (far m p).toNat : Int) : Rat), (distR G (toR m)).s, (distR G (toR m)).q⟩] from if_pos ⟨h1, h2, h3⟩]
  · rintro e s ⟨c, fs, o3, o4, o5, o6, o7, o8, o9, o10, o11, o12, rfl, hu, hc0, hsc, hall, _⟩
    rw [List.flatMap_nil, List.append_nil] at hall
    obtain ⟨v, l, hv⟩ := corn_ne A
    obtain ⟨x, xs, hx⟩ : ∃ x xs, candL A B ++ candL B A = x :: xs := by
      unfold candL
      rw [hv]
      exact ⟨_, _, rfl⟩
    have cds : ∀ y ∈ x :: xs, Cd y := by
      rw [← hx]
      intro y hy
      rcases List.mem_append.mp hy with h | h
      · exact cand_cd hA hB y h
      · exact cand_cd hB hA y h
    rw [hx] at hall k
    rw [hall] at hsc
    dsimp only
    refine Go.seq ?_
    refine Go.frz rfl hsc ?_
    have up : Up S (sdel s c) := fun b hb => by
      rw [sdel_ne (fun z => hb (by rw [z]; exact hc0))]
      exact hu b hb
    generalize sdel s c = s1 at up
    obtain ⟨L, hL⟩ : ∃ L, L = (x :: xs).map rt := ⟨_, rfl⟩
    have at0 : atI L 0 = some (rt x) := by rw [hL]; exact atI_0
    show sAsg _ _ [some (thD A), some (thD B), some (.lst ((x :: xs).map rt)), o3, o4, o5, o6, o7, o8, o9, o10, o11, o12] s1 _
    rw [← hL]
    walk_at "bl"
    refine Go.ixL at0 ?_
    walk_at "bl"
    have fd : ∀ {g b env S N}, forD g b ((x :: xs).map rt) env S N → forD g b L env S N := fun {g b env S N} h => by rw [hL]; exact h
    refine fd ?_
    refine forD_map (f := rt) (fun zs e s => ∃ (y : Rt) (done : List Rt) (o10 : Option D), e = [some (thD A), some (thD B), some (.lst L), o3, o4, o5, o6, o7, o8, some (rt y), o10, o11, o12] ∧ s = s1 ∧ x :: xs = done ++ zs ∧ y ∈ x :: xs ∧ ∀ σ ∈ done, val y ≤ val σ) ?_ ?_ (x :: xs) ⟨x, [], _, rfl, rfl, rfl, List.mem_cons_self .., fun σ h => by cases h⟩
    · rintro z zs e s ⟨y, done, o10, rfl, rfl, hd, hy, hl⟩
      refine ⟨_, rfl, fun N2 hnx2 _ _ _ _ => ?_⟩
      show sIf _ _ _ [some (thD A), some (thD B), some (.lst L), o3, o4, o5, o6, o7, o8, some (rt y), some (rt z), o11, o12] _ _
      have hz : z ∈ x :: xs := by rw [hd]; simp
      have cy := cds y hy
      have cz := cds z hz
      walk_at "bl"
      refine compare_spec (n := 150) cz.ok cy.ok cz.b cz.q cy.b cy.q (by decide) ?_
      walk_at "bl"
      have sp := sg_cases (val z - val y)
      refine Go.ifD (fun h => ?_) fun h => ?_
      · have lt : val z ≤ val y := by
          rcases sp with ⟨_, e⟩ | ⟨_, e⟩ | ⟨_, e⟩
          · rw [e] at h; exact absurd h (by decide)
          · rw [e] at h; exact absurd h (by decide)
          · grind
        walk_at "bl"
        refine hnx2 _ _ ⟨z, done ++ [z], _, rfl, rfl, by rw [hd]; simp, hz, fun σ hσ => ?_⟩
        rcases List.mem_append.mp hσ with h | h
        · have := hl σ h
          grind
        · rw [List.mem_singleton.mp h]
          grind
      · have le : val y ≤ val z := by
          rcases sp with ⟨_, e⟩ | ⟨_, e⟩ | ⟨_, e⟩
          · grind
          · grind
          · rw [e] at h; exact absurd (by decide) h
        walk_at "bl"
        refine hnx2 _ _ ⟨y, done ++ [z], _, rfl, rfl, by rw [hd]; simp, hy, fun σ hσ => ?_⟩
        rcases List.mem_append.mp hσ with h | h
        · exact hl σ h
        · rw [List.mem_singleton.mp h]
          exact le
    · rintro e s ⟨y, done, o10, rfl, rfl, hd, hy, hl⟩
      walk_at "bl"
      rw [List.append_nil] at hd
      exact k y _ up hy (by rw [hd]; exact hl)
end Ld.Lt

namespace Ld.Lt.K17
open PySem PySem.Spec PyProof.Rows L2 Bl Lb Ld
def t_law : TSd := sSeq (sFor (iR1 (aCons (dB bMax (aCons (cn (.int 1)) (aCons (dB bMin (aCons (cn (.int 3)) (aCons (dB bLen (aCons (vr 0) (aNil))) (aNil)))) (aNil)))) (aNil))) (.nm 1) (sSeq (sAsg (dCall m_l_bag 2 0 (fun ds _ => ds) (aCons (vr 0) (aCons (vr 1) (aNil))) aNil) (.nm 2)) (sFor (iR1 (aCons (cn (.int 6)) (aNil))) (.nm 3) (sSeq (sAsg (dCall m_l_thing 3 0 (fun ds _ => ds) (aCons (vr 2) (aCons (cn (.int 9)) (aCons (dCall m_l_take 2 0 (fun ds _ => ds) (aCons (vr 2) (aCons (cn (.int 7)) (aNil))) aNil) (aNil)))) aNil) (.nm 4)) (sSeq (sAsg (dCall m_l_thing 3 0 (fun ds _ => ds) (aCons (vr 2) (aCons (cn (.int 9)) (aCons (dCall m_l_take 2 0 (fun ds _ => ds) (aCons (vr 2) (aCons (cn (.int 7)) (aNil))) aNil) (aNil)))) aNil) (.nm 5)) (sSeq (sIf (tbl (dTwo (vr 3) (cn (.int 4)) fLt)) (sSeq (sAsg (dCall m_l_off 3 0 (fun ds _ => ds) (aCons (vr 2) (aCons (vr 4) (aCons (vr 5) (aNil)))) aNil) (.nm 5)) (sAsg (dCall m_l_apart 2 0 (fun ds _ => ds) (aCons (vr 4) (aCons (vr 5) (aNil))) aNil) (.nm 6))) (sSeq (sPar [7, 8] (aCons (dTwo (vr 4) (dTwo (dTwo (dB bLen (aCons (vr 4) (aNil))) (cn (.int 1)) fSub) (dCall m_l_take 2 0 (fun ds _ => ds) (aCons (vr 2) (aCons (dTwo (cn (.int 2)) (dB bInt (aCons (dTwo (dTwo (vr 4) (cn (.int 0)) fIx) (cn (.str "spot")) fEq) (aNil))) fSub) (aNil))) aNil) fSub) fIx) (aCons (dTwo (vr 5) (dNeg (cn (.int 1))) fIx) (aNil)))) (sSeq (sAsg (dCall m_l_moved 3 0 (fun ds _ => ds) (aCons (vr 5) (aCons (dTwo (dTwo (vr 7) (cn (.int 0)) fIx) (dTwo (vr 8) (cn (.int 0)) fIx) fSub) (aCons (dTwo (dTwo (vr 7) (cn (.int 1)) fIx) (dTwo (vr 8) (cn (.int 1)) fIx) fSub) (aNil)))) aNil) (.nm 5)) (sAsg (dTup (aCons (dTup (aCons (cn (.int 0)) (aCons (cn (.int 1)) (aNil)))) (aCons (cn (.int 0)) (aCons (dTup (aCons (cn (.int 0)) (aCons (cn (.int 1)) (aNil)))) (aNil))))) (.nm 6))))) (sIf (tOrD (tbl (dTwo (dCall m_apart 2 0 (fun ds _ => ds) (aCons (vr 4) (aCons (vr 5) (aNil))) aNil) (vr 6) fNe)) (tbl (dTwo (dCall m_apart 2 0 (fun ds _ => ds) (aCons (vr 5) (aCons (vr 4) (aNil))) aNil) (vr 6) fNe))) (sRet (cn (.bl false))) (sNx)))))))) (sRet (cn (.bl true)))
def m_law : TFd := fnD 1 9 t_law
theorem e_law {a0 : D} {S : Sto} {Q : DK} {E : EK} (k : t_law [some a0, none, none, none, none, none, none, none, none] S ⟨fun _ S1 => Q .non S1, Q, fun _ _ => False, fun _ _ => False, fun x _ S1 => E x S1⟩) : m_law [a0] S Q E := ⟨rfl, k⟩
end Ld.Lt.K17

namespace Ld.Lt.K17
open PySem PySem.Spec PyProof.Rows L2 Bl Lb Ld
local macro_rules | `(tactic| walk_at "mo") => `(tactic| (repeat' first
  | exact moVr _ | exact moCn _ | exact moYesD | exact moNilA | exact moONone | exact moAdd | exact moSub | exact moMul | exact moDiv | exact moMod | exact moPow | exact moShl | exact moLt | exact moLe | exact moGt | exact moGe | exact moEq | exact moNe | exact moIs | exact moIsNot | exact moIn _ | exact moIx | exact moCat | exact moRep01 | exact moCatR | exact moNeR | refine moSortSet ?_
  | (with_reducible refine moTup ?_) | (with_reducible refine moLst ?_) | refine moTwo ?_ ?_ ?_ | refine moConsA ?_ ?_ | refine moTup ?_ | refine moLst ?_ | refine moTbl ?_ | refine moTtr ?_ | refine moAndD ?_ ?_ | refine moOrD ?_ ?_ | refine moNotD ?_ | refine moVOf ?_ | refine moEIf ?_ ?_ ?_ | refine moNeg ?_ | refine moChain ?_ ?_ ?_ ?_ ?_ | refine moSl ?_ ?_ ?_ | refine moOSome ?_ | refine moIsi ?_
  | refine moCall ?_ ?_ ?_ | refine moLc ?_ ?_ ?_ | refine moRvs ?_ ?_ | refine moLcG ?_ ?_ ?_ | refine moIVal ?_ | refine moR1 ?_ | refine moR2 ?_ | refine moEnumD ?_ | refine moRevD ?_ | refine moZipD ?_ ?_ | refine moZipSD ?_ ?_ | refine moZipRD ?_ ?_ | refine moGetL ?_ ?_ ?_ | refine moB (cd_len (X := X)).mo ?_ | refine moB (cd_abs (X := X)).mo ?_ | refine moB (cd_int (X := X)).mo ?_ | refine moB (cd_tup (X := X)).mo ?_ | refine moB (cd_lst (X := X)).mo ?_))
section
variable {P : Program} {w : World} {K : PySem.W.Frag} {mg : Str → Option Value} {base : Heap}
theorem Tk_ZERO (T : Tp fa fn bx K mg) : GC K mg "ZERO" k_ZERO := gc_tupI (T.glo 15) (all_at T.bx 0 rfl)
theorem body_sign_of (T : Tp fa fn bx K mg) {X : Cx} {W : WX} (d : JD P w K mg base nm_sign_of (defScope (top 9)) vw_sign_of 0 X W) : JB X W (defBody (top 9)) t_sign_of :=
  jb_one (js_ret (je_op opD_sub (je_callTy d.toJC cd_int (mm 0) (T.free 9) (by decide +kernel) (ja_cons (je_cmp opD_gt (jv d.toJC 0 (mm 0) rfl) (je_int) rfl) (ja_nil))) (je_callTy d.toJC cd_int (mm 0) (T.free 9) (by decide +kernel) (ja_cons (je_cmp opD_lt (jv d.toJC 0 (mm 0) rfl) (je_int) rfl) (ja_nil)))))
theorem Tj_sign_of (T : Tp fa fn bx K mg) : JF P w K mg base "sign_of" 1 [] (fun ds _ => ds) 1 m_sign_of := by
  obtain ⟨fd, F⟩ := T.sy.def_ 0 (d := d_sign_of) rfl
  exact jf_mkN F fs_sign_of sc_sign_of (T.glo 18) ⟨rfl, by decide, by decide⟩ (fun _ _ _ _ _ _ us hl => match us, hl with | [_], _ => rfl) (fun X W d => body_sign_of T d)
theorem body_field_sign (T : Tp fa fn bx K mg) {X : Cx} {W : WX} (d : JD P w K mg base nm_field_sign (defScope (top 14)) vw_field_sign 1 X W) : JB X W (defBody (top 14)) t_field_sign :=
  jb_cons (js_if (jt_w (jw_or (jt_cmp opD_ge (je_op opD_mul (je_call d.toJC (Tj_sign_of T) (by decide) (mm 0) (ja_cons (jv d.toJC 0 (mm 0) rfl) (ja_nil))) (je_call d.toJC (Tj_sign_of T) (by decide) (mm 0) (ja_cons (jv d.toJC 1 (mm 1) rfl) (ja_nil)))) (je_int) rfl) (jw_or1 (jt_cmp (opD_eq d.toJC.room) (jv d.toJC 2 (mm 2) rfl) (je_int) rfl)))) (jb_one (js_ret (je_ifExp (jt_cmp (opD_eq d.toJC.room) (jv d.toJC 2 (mm 2) rfl) (je_int) rfl) (je_call d.toJC (Tj_sign_of T) (by decide) (mm 0) (ja_cons (jv d.toJC 0 (mm 0) rfl) (ja_nil))) (je_call d.toJC (Tj_sign_of T) (by decide) (mm 0) (ja_cons (je_op opD_add (je_call d.toJC (Tj_sign_of T) (by decide) (mm 0) (ja_cons (jv d.toJC 0 (mm 0) rfl) (ja_nil))) (je_call d.toJC (Tj_sign_of T) (by decide) (mm 0) (ja_cons (jv d.toJC 1 (mm 1) rfl) (ja_nil)))) (ja_nil)))))) (jb_nil)) (jb_one (js_ret (je_op opD_mul (je_call d.toJC (Tj_sign_of T) (by decide) (mm 0) (ja_cons (jv d.toJC 0 (mm 0) rfl) (ja_nil))) (je_call d.toJC (Tj_sign_of T) (by decide) (mm 0) (ja_cons (je_op opD_sub (je_op opD_mul (jv d.toJC 0 (mm 0) rfl) (jv d.toJC 0 (mm 0) rfl)) (je_op opD_mul (je_op opD_mul (jv d.toJC 1 (mm 1) rfl) (jv d.toJC 1 (mm 1) rfl)) (jv d.toJC 2 (mm 2) rfl))) (ja_nil))))))
theorem Tj_field_sign (T : Tp fa fn bx K mg) : JF P w K mg base "field_sign" 3 [] (fun ds _ => ds) 2 m_field_sign := by
  obtain ⟨fd, F⟩ := T.sy.def_ 1 (d := d_field_sign) rfl
  exact jf_mkN F fs_field_sign sc_field_sign (T.glo 17) ⟨rfl, by decide, by decide⟩ (fun _ _ _ _ _ _ us hl => match us, hl with | [_, _, _], _ => rfl) (fun X W d => body_field_sign T d)
theorem body_root_sign (T : Tp fa fn bx K mg) {X : Cx} {W : WX} (d : JD P w K mg base nm_root_sign (defScope (top 15)) vw_root_sign 2 X W) : JB X W (defBody (top 15)) t_root_sign :=
  jb_cons (js_asg (jv d.toJC 0 (mm 0) rfl) (jg_tup d.toJC.calm (jgs_cons (jg_name d.toJC 1 rfl (.inl (d.toJC.sC.loc 1 (mm 1) _ rfl))) (jgs_cons (jg_name d.toJC 2 rfl (.inl (d.toJC.sC.loc 2 (mm 2) _ rfl))) (jgs_cons (jg_name d.toJC 3 rfl (.inl (d.toJC.sC.loc 3 (mm 3) _ rfl))) (jgs_nil)))))) (jb_cons (js_set d.toJC 4 rfl (.inl (d.toJC.sC.loc 4 (mm 4) _ rfl)) (je_op opD_mul (je_ix (jv d.toJC 1 (mm 1) rfl) (je_int)) (je_ix (jv d.toJC 3 (mm 3) rfl) (je_int)))) (jb_one (js_ret (je_call d.toJC (Tj_field_sign T) (by decide) (mm 0) (ja_cons (je_op opD_mul (je_op opD_mul (je_ix (jv d.toJC 1 (mm 1) rfl) (je_int)) (je_ix (jv d.toJC 3 (mm 3) rfl) (je_int))) (je_ix (jv d.toJC 3 (mm 3) rfl) (je_int))) (ja_cons (je_op opD_mul (jv d.toJC 2 (mm 2) rfl) (jv d.toJC 4 (mm 4) rfl)) (ja_cons (je_op opD_mul (je_ix (jv d.toJC 3 (mm 3) rfl) (je_int)) (je_ix (jv d.toJC 3 (mm 3) rfl) (je_int))) (ja_nil))))))))
theorem Tj_root_sign (T : Tp fa fn bx K mg) : JF P w K mg base "root_sign" 1 [] (fun ds _ => ds) 3 m_root_sign := by
  obtain ⟨fd, F⟩ := T.sy.def_ 2 (d := d_root_sign) rfl
  exact jf_mkN F fs_root_sign sc_root_sign (T.glo 14) ⟨rfl, by decide, by decide⟩ (fun _ _ _ _ _ _ us hl => match us, hl with | [_], _ => rfl) (fun X W d => body_root_sign T d)
theorem body_from_frac (T : Tp fa fn bx K mg) {X : Cx} {W : WX} (d : JD P w K mg base nm_from_frac (defScope (top 16)) vw_from_frac 0 X W) : JB X W (defBody (top 16)) t_from_frac :=
  jb_one (js_ret (je_tup (ja_cons (jv d.toJC 0 (mm 0) rfl) (ja_cons (je_int) (ja_cons (je_glob d.toJC (mm 0) (Tk_ZERO T)) (ja_nil))))))
theorem Tj_from_frac (T : Tp fa fn bx K mg) : JF P w K mg base "from_frac" 1 [] (fun ds _ => ds) 1 m_from_frac := by
  obtain ⟨fd, F⟩ := T.sy.def_ 3 (d := d_from_frac) rfl
  exact jf_mkN F fs_from_frac sc_from_frac (T.glo 16) ⟨rfl, by decide, by decide⟩ (fun _ _ _ _ _ _ us hl => match us, hl with | [_], _ => rfl) (fun X W d => body_from_frac T d)
theorem body_whole_root (T : Tp fa fn bx K mg) {X : Cx} {W : WX} (d : JD P w K mg base nm_whole_root (defScope (top 10)) vw_whole_root 0 X W) : JB X W (defBody (top 10)) t_whole_root :=
  jb_cons (js_if (jt_cmp (opD_eq d.toJC.room) (jv d.toJC 0 (mm 0) rfl) (je_int) rfl) (jb_one (js_ret (je_int))) (jb_nil)) (jb_cons (js_set d.toJC 1 rfl (.inl (d.toJC.sC.loc 1 (mm 1) _ rfl)) (je_op opD_shl (je_int) (je_op opD_div (je_op opD_add (je_bits (jv d.toJC 0 (mm 0) rfl)) (je_int)) (je_int)))) (jb_cons (js_while d (jt_cmp opD_gt (je_op opD_mul (jv d.toJC 1 (mm 1) rfl) (jv d.toJC 1 (mm 1) rfl)) (jv d.toJC 0 (mm 0) rfl) rfl) (jb_one (js_set d.toJC 1 rfl (.inl (d.toJC.sC.loc 1 (mm 1) _ rfl)) (je_op opD_div (je_op opD_add (jv d.toJC 1 (mm 1) rfl) (je_op opD_div (jv d.toJC 0 (mm 0) rfl) (jv d.toJC 1 (mm 1) rfl))) (je_int))))) (jb_one (js_ret (jv d.toJC 1 (mm 1) rfl)))))
theorem Tj_whole_root (T : Tp fa fn bx K mg) : JF P w K mg base "whole_root" 1 [] (fun ds _ => ds) 1 m_whole_root := by
  obtain ⟨fd, F⟩ := T.sy.def_ 4 (d := d_whole_root) rfl
  exact jf_mkN F fs_whole_root sc_whole_root (T.glo 23) ⟨rfl, by decide, by decide⟩ (fun _ _ _ _ _ _ us hl => match us, hl with | [_], _ => rfl) (fun X W d => body_whole_root T d)
theorem body_far_square (T : Tp fa fn bx K mg) {X : Cx} {W : WX} (d : JD P w K mg base nm_far_square (defScope (top 18)) vw_far_square 0 X W) : JB X W (defBody (top 18)) t_far_square :=
  jb_one (js_ret (je_op opD_add (je_op opD_pow (je_op opD_sub (je_ix (jv d.toJC 0 (mm 0) rfl) (je_int)) (je_ix (jv d.toJC 1 (mm 1) rfl) (je_int))) (je_int)) (je_op opD_pow (je_op opD_sub (je_ix (jv d.toJC 0 (mm 0) rfl) (je_int)) (je_ix (jv d.toJC 1 (mm 1) rfl) (je_int))) (je_int))))
theorem Tj_far_square (T : Tp fa fn bx K mg) : JF P w K mg base "far_square" 2 [] (fun ds _ => ds) 1 m_far_square := by
  obtain ⟨fd, F⟩ := T.sy.def_ 5 (d := d_far_square) rfl
  exact jf_mkN F fs_far_square sc_far_square (T.glo 22) ⟨rfl, by decide, by decide⟩ (fun _ _ _ _ _ _ us hl => match us, hl with | [_, _], _ => rfl) (fun X W d => body_far_square T d)
theorem body_step_from (T : Tp fa fn bx K mg) {X : Cx} {W : WX} (d : JD P w K mg base nm_step_from (defScope (top 21)) vw_step_from 0 X W) : JB X W (defBody (top 21)) t_step_from :=
  jb_one (js_ret (je_tup (ja_cons (je_op opD_sub (je_ix (jv d.toJC 0 (mm 0) rfl) (je_int)) (je_ix (jv d.toJC 1 (mm 1) rfl) (je_int))) (ja_cons (je_op opD_sub (je_ix (jv d.toJC 0 (mm 0) rfl) (je_int)) (je_ix (jv d.toJC 1 (mm 1) rfl) (je_int))) (ja_nil)))))
theorem Tj_step_from (T : Tp fa fn bx K mg) : JF P w K mg base "step_from" 2 [] (fun ds _ => ds) 1 m_step_from := by
  obtain ⟨fd, F⟩ := T.sy.def_ 6 (d := d_step_from) rfl
  exact jf_mkN F fs_step_from sc_step_from (T.glo 20) ⟨rfl, by decide, by decide⟩ (fun _ _ _ _ _ _ us hl => match us, hl with | [_, _], _ => rfl) (fun X W d => body_step_from T d)
theorem body_common (T : Tp fa fn bx K mg) {X : Cx} {W : WX} (d : JD P w K mg base nm_common (defScope (top 6)) vw_common 0 X W) : JB X W (defBody (top 6)) t_common :=
  jb_cons (js_par d.toJC 0 1 rfl rfl (by decide) (d.toJC.sC.loc 0 (mm 0) _ rfl) (d.toJC.sC.loc 1 (mm 1) _ rfl) (ja_cons (je_callB d.toJC cd_abs (mm 0) (T.free 25) (by decide +kernel) (ja_cons (jv d.toJC 0 (mm 0) rfl) (ja_nil))) (ja_cons (je_callB d.toJC cd_abs (mm 0) (T.free 25) (by decide +kernel) (ja_cons (jv d.toJC 1 (mm 1) rfl) (ja_nil))) (ja_nil))) (sw2 d.toJC.kd (by rw [d.toJC.ss]; exact (d.toJC.sC.loc 0 (mm 0) _ rfl)) (by rw [d.toJC.ss]; exact (d.toJC.sC.loc 1 (mm 1) _ rfl)) rfl (by decide +kernel) rfl rfl rfl)) (jb_cons (js_while d (jt_cmp (opD_ne d.toJC.room) (jv d.toJC 1 (mm 1) rfl) (je_int) rfl) (jb_one (js_par d.toJC 0 1 rfl rfl (by decide) (d.toJC.sC.loc 0 (mm 0) _ rfl) (d.toJC.sC.loc 1 (mm 1) _ rfl) (ja_cons (jv d.toJC 1 (mm 1) rfl) (ja_cons (je_op opD_mod (jv d.toJC 0 (mm 0) rfl) (jv d.toJC 1 (mm 1) rfl)) (ja_nil))) (sw2 d.toJC.kd (by rw [d.toJC.ss]; exact (d.toJC.sC.loc 0 (mm 0) _ rfl)) (by rw [d.toJC.ss]; exact (d.toJC.sC.loc 1 (mm 1) _ rfl)) rfl (by decide +kernel) rfl rfl rfl)))) (jb_one (js_ret (jv d.toJC 0 (mm 0) rfl))))
theorem Tj_common (T : Tp fa fn bx K mg) : JF P w K mg base "common" 2 [] (fun ds _ => ds) 1 m_common := by
  obtain ⟨fd, F⟩ := T.sy.def_ 7 (d := d_common) rfl
  exact jf_mkN F fs_common sc_common (T.glo 24) ⟨rfl, by decide, by decide⟩ (fun _ _ _ _ _ _ us hl => match us, hl with | [_, _], _ => rfl) (fun X W d => body_common T d)
theorem body_lowest (T : Tp fa fn bx K mg) {X : Cx} {W : WX} (d : JD P w K mg base nm_lowest (defScope (top 22)) vw_lowest 1 X W) : JB X W (defBody (top 22)) t_lowest :=
  jb_cons (js_set d.toJC 1 rfl (.inl (d.toJC.sC.loc 1 (mm 1) _ rfl)) (je_call d.toJC (Tj_common T) (by decide) (mm 0) (ja_cons (je_ix (jv d.toJC 0 (mm 0) rfl) (je_int)) (ja_cons (je_ix (jv d.toJC 0 (mm 0) rfl) (je_int)) (ja_nil))))) (jb_one (js_ret (je_tup (ja_cons (je_op opD_div (je_ix (jv d.toJC 0 (mm 0) rfl) (je_int)) (jv d.toJC 1 (mm 1) rfl)) (ja_cons (je_op opD_div (je_ix (jv d.toJC 0 (mm 0) rfl) (je_int)) (jv d.toJC 1 (mm 1) rfl)) (ja_nil))))))
theorem Tj_lowest (T : Tp fa fn bx K mg) : JF P w K mg base "lowest" 1 [] (fun ds _ => ds) 2 m_lowest := by
  obtain ⟨fd, F⟩ := T.sy.def_ 8 (d := d_lowest) rfl
  exact jf_mkN F fs_lowest sc_lowest (T.glo 21) ⟨rfl, by decide, by decide⟩ (fun _ _ _ _ _ _ us hl => match us, hl with | [_], _ => rfl) (fun X W d => body_lowest T d)
theorem body_outward (T : Tp fa fn bx K mg) {X : Cx} {W : WX} (d : JD P w K mg base nm_outward (defScope (top 23)) vw_outward 2 X W) : JB X W (defBody (top 23)) t_outward :=
  jb_cons (js_asg (je_call d.toJC (Tj_step_from T) (by decide) (mm 0) (ja_cons (jv d.toJC 1 (mm 1) rfl) (ja_cons (jv d.toJC 0 (mm 0) rfl) (ja_nil)))) (jg_tup d.toJC.calm (jgs_cons (jg_name d.toJC 2 rfl (.inl (d.toJC.sC.loc 2 (mm 2) _ rfl))) (jgs_cons (jg_name d.toJC 3 rfl (.inl (d.toJC.sC.loc 3 (mm 3) _ rfl))) (jgs_nil))))) (jb_one (js_ret (je_call d.toJC (Tj_lowest T) (by decide) (mm 1) (ja_cons (je_tup (ja_cons (jv d.toJC 3 (mm 3) rfl) (ja_cons (je_op opD_sub (je_int) (jv d.toJC 2 (mm 2) rfl)) (ja_nil)))) (ja_nil)))))
theorem Tj_outward (T : Tp fa fn bx K mg) : JF P w K mg base "outward" 2 [] (fun ds _ => ds) 3 m_outward := by
  obtain ⟨fd, F⟩ := T.sy.def_ 9 (d := d_outward) rfl
  exact jf_mkN F fs_outward sc_outward (T.glo 19) ⟨rfl, by decide, by decide⟩ (fun _ _ _ _ _ _ us hl => match us, hl with | [_, _], _ => rfl) (fun X W d => body_outward T d)
theorem body_faces (T : Tp fa fn bx K mg) {X : Cx} {W : WX} (d : JD P w K mg base nm_faces (defScope (top 24)) vw_faces 3 X W) : JB X W (defBody (top 24)) t_faces :=
  jb_cons (js_star (i := 1) (aft := 0) d.toJC.calm (jv d.toJC 0 (mm 0) rfl) (jgs_cons (jg_name d.toJC 1 rfl (.inl (d.toJC.sC.loc 1 (mm 1) _ rfl))) (jgs_cons (jg_name d.toJC 2 rfl (.inl (d.toJC.sC.loc 2 (mm 2) _ rfl))) (jgs_nil)))) (jb_cons (js_if (jt_cmp (opD_eq d.toJC.room) (jv d.toJC 1 (mm 1) rfl) (je_str) rfl) (jb_one (js_ret (je_tup (ja_cons (je_tup (ja_cons (je_str) (ja_cons (je_ix (jv d.toJC 2 (mm 2) rfl) (je_int)) (ja_cons (je_int) (ja_cons (je_tup (ja_cons (je_int) (ja_cons (je_int) (ja_nil)))) (ja_cons (je_tup (ja_cons (je_int) (ja_cons (je_int) (ja_nil)))) (ja_nil))))))) (ja_nil))))) (jb_nil)) (jb_cons (js_star (i := 0) (aft := 2) d.toJC.calm (jv d.toJC 2 (mm 2) rfl) (jgs_cons (jg_name d.toJC 3 rfl (.inl (d.toJC.sC.loc 3 (mm 3) _ rfl))) (jgs_cons (jg_name d.toJC 4 rfl (.inl (d.toJC.sC.loc 4 (mm 4) _ rfl))) (jgs_cons (jg_name d.toJC 5 rfl (.inl (d.toJC.sC.loc 5 (mm 5) _ rfl))) (jgs_nil))))) (jb_cons (js_set d.toJC 6 rfl (.inl (d.toJC.sC.loc 6 (mm 6) _ rfl)) (je_call d.toJC (Tj_outward T) (by decide) (mm 0) (ja_cons (jv d.toJC 5 (mm 5) rfl) (ja_cons (jv d.toJC 4 (mm 4) rfl) (ja_nil))))) (jb_cons (js_if (jt_cmp (opD_eq d.toJC.room) (jv d.toJC 1 (mm 1) rfl) (je_str) rfl) (jb_cons (js_set d.toJC 7 rfl (.inl (d.toJC.sC.loc 7 (mm 7) _ rfl)) (je_call d.toJC (Tj_outward T) (by decide) (mm 0) (ja_cons (jv d.toJC 4 (mm 4) rfl) (ja_cons (jv d.toJC 5 (mm 5) rfl) (ja_nil))))) (jb_one (js_ret (je_tup (ja_cons (je_tup (ja_cons (je_str) (ja_cons (jv d.toJC 4 (mm 4) rfl) (ja_cons (jv d.toJC 5 (mm 5) rfl) (ja_nil))))) (ja_cons (je_tup (ja_cons (je_str) (ja_cons (jv d.toJC 5 (mm 5) rfl) (ja_cons (je_int) (ja_cons (jv d.toJC 7 (mm 7) rfl) (ja_cons (jv d.toJC 6 (mm 6) rfl) (ja_nil))))))) (ja_cons (je_tup (ja_cons (je_str) (ja_cons (jv d.toJC 5 (mm 5) rfl) (ja_cons (jv d.toJC 4 (mm 4) rfl) (ja_nil))))) (ja_cons (je_tup (ja_cons (je_str) (ja_cons (jv d.toJC 4 (mm 4) rfl) (ja_cons (je_int) (ja_cons (jv d.toJC 6 (mm 6) rfl) (ja_cons (jv d.toJC 7 (mm 7) rfl) (ja_nil))))))) (ja_nil))))))))) (jb_nil)) (jb_cons (js_set d.toJC 8 rfl (.inl (d.toJC.sC.loc 8 (mm 8) _ rfl)) (je_ix (jv d.toJC 3 (mm 3) rfl) (je_int))) (jb_cons (js_par d.toJC 9 10 rfl rfl (by decide) (d.toJC.sC.loc 9 (mm 9) _ rfl) (d.toJC.sC.loc 10 (mm 10) _ rfl) (ja_cons (je_call d.toJC (Tj_lowest T) (by decide) (mm 1) (ja_cons (je_call d.toJC (Tj_step_from T) (by decide) (mm 2) (ja_cons (jv d.toJC 4 (mm 4) rfl) (ja_cons (jv d.toJC 8 (mm 8) rfl) (ja_nil)))) (ja_nil))) (ja_cons (je_call d.toJC (Tj_lowest T) (by decide) (mm 1) (ja_cons (je_call d.toJC (Tj_step_from T) (by decide) (mm 2) (ja_cons (jv d.toJC 5 (mm 5) rfl) (ja_cons (jv d.toJC 8 (mm 8) rfl) (ja_nil)))) (ja_nil))) (ja_nil))) (sw2 d.toJC.kd (by rw [d.toJC.ss]; exact (d.toJC.sC.loc 9 (mm 9) _ rfl)) (by rw [d.toJC.ss]; exact (d.toJC.sC.loc 10 (mm 10) _ rfl)) rfl (by decide +kernel) rfl rfl rfl)) (jb_cons (js_set d.toJC 11 rfl (.inl (d.toJC.sC.loc 11 (mm 11) _ rfl)) (je_tup (ja_cons (je_str) (ja_cons (jv d.toJC 8 (mm 8) rfl) (ja_cons (je_call d.toJC (Tj_whole_root T) (by decide) (mm 3) (ja_cons (je_call d.toJC (Tj_far_square T) (by decide) (mm 4) (ja_cons (jv d.toJC 8 (mm 8) rfl) (ja_cons (jv d.toJC 4 (mm 4) rfl) (ja_nil)))) (ja_nil))) (ja_cons (jv d.toJC 9 (mm 9) rfl) (ja_cons (jv d.toJC 10 (mm 10) rfl) (ja_nil)))))))) (jb_one (js_ret (je_tup (ja_cons (jv d.toJC 11 (mm 11) rfl) (ja_cons (je_tup (ja_cons (je_str) (ja_cons (jv d.toJC 5 (mm 5) rfl) (ja_cons (je_int) (ja_cons (jv d.toJC 10 (mm 10) rfl) (ja_cons (jv d.toJC 6 (mm 6) rfl) (ja_nil))))))) (ja_cons (je_tup (ja_cons (je_str) (ja_cons (jv d.toJC 5 (mm 5) rfl) (ja_cons (jv d.toJC 4 (mm 4) rfl) (ja_nil))))) (ja_cons (je_tup (ja_cons (je_str) (ja_cons (jv d.toJC 4 (mm 4) rfl) (ja_cons (je_int) (ja_cons (jv d.toJC 6 (mm 6) rfl) (ja_cons (jv d.toJC 9 (mm 9) rfl) (ja_nil))))))) (ja_nil)))))))))))))))
theorem Tj_faces (T : Tp fa fn bx K mg) : JF P w K mg base "faces" 1 [] (fun ds _ => ds) 4 m_faces := by
  obtain ⟨fd, F⟩ := T.sy.def_ 10 (d := d_faces) rfl
  exact jf_mkN F fs_faces sc_faces (T.glo 12) ⟨rfl, by decide, by decide⟩ (fun _ _ _ _ _ _ us hl => match us, hl with | [_], _ => rfl) (fun X W d => body_faces T d)
theorem body_frac (T : Tp fa fn bx K mg) {X : Cx} {W : WX} (d : JD P w K mg base nm_frac (defScope (top 7)) vw_frac 1 X W) : JB X W (defBody (top 7)) t_frac :=
  jb_cons (js_thru d (fun _ _ d => jb_one (js_set d.toJC 2 rfl (.inl (d.toJC.sC.loc 2 (mm 2) _ rfl)) (je_op opD_div (jv d.toJC 1 (mm 1) rfl) (je_callB d.toJC cd_abs (mm 0) (T.free 25) (by decide +kernel) (ja_cons (jv d.toJC 1 (mm 1) rfl) (ja_nil))))))) (jb_cons (js_set d.toJC 4 rfl (.inl (d.toJC.sC.loc 4 (mm 4) _ rfl)) (je_op opD_mul (je_call d.toJC (Tj_common T) (by decide) (mm 3) (ja_cons (jv d.toJC 0 (mm 0) rfl) (ja_cons (jv d.toJC 1 (mm 1) rfl) (ja_nil)))) (jv d.toJC 2 (mm 2) rfl))) (jb_one (js_ret (je_tup (ja_cons (je_op opD_div (jv d.toJC 0 (mm 0) rfl) (jv d.toJC 4 (mm 4) rfl)) (ja_cons (je_op opD_div (jv d.toJC 1 (mm 1) rfl) (jv d.toJC 4 (mm 4) rfl)) (ja_nil)))))))
theorem Tj_frac (T : Tp fa fn bx K mg) : JF P w K mg base "frac" 2 [] (fun ds _ => ds ++ []) 2 m_frac := by
  obtain ⟨fd, F⟩ := T.sy.def_ 11 (d := d_frac) rfl
  exact jf_mkF 2 1 [] F fs_frac sc_frac (T.glo 36) ⟨rfl, by decide, by decide⟩ (List.cons_ne_nil _ _) rfl (fun _ _ _ => .nil) (fun _ _ _ _ _ _ _ us its hl h2 => match us, its, hl, h2 with | [_, _], [_], _, _ => ⟨_, rfl, rfl⟩) (fun X W d => body_frac T d)
theorem body_plus (T : Tp fa fn bx K mg) {X : Cx} {W : WX} (d : JD P w K mg base nm_plus (defScope (top 8)) vw_plus 2 X W) : JB X W (defBody (top 8)) t_plus :=
  jb_one (js_ret (je_call d.toJC (Tj_frac T) (by decide) (mm 0) (ja_cons (je_op opD_add (je_op opD_mul (je_ix (jv d.toJC 0 (mm 0) rfl) (je_int)) (je_ix (jv d.toJC 1 (mm 1) rfl) (je_int))) (je_op opD_mul (je_ix (jv d.toJC 1 (mm 1) rfl) (je_int)) (je_ix (jv d.toJC 0 (mm 0) rfl) (je_int)))) (ja_cons (je_op opD_mul (je_ix (jv d.toJC 0 (mm 0) rfl) (je_int)) (je_ix (jv d.toJC 1 (mm 1) rfl) (je_int))) (ja_nil)))))
theorem Tj_plus (T : Tp fa fn bx K mg) : JF P w K mg base "plus" 2 [] (fun ds _ => ds) 3 m_plus := by
  obtain ⟨fd, F⟩ := T.sy.def_ 12 (d := d_plus) rfl
  exact jf_mkN F fs_plus sc_plus (T.glo 35) ⟨rfl, by decide, by decide⟩ (fun _ _ _ _ _ _ us hl => match us, hl with | [_, _], _ => rfl) (fun X W d => body_plus T d)
theorem body_is_square (T : Tp fa fn bx K mg) {X : Cx} {W : WX} (d : JD P w K mg base nm_is_square (defScope (top 11)) vw_is_square 1 X W) : JB X W (defBody (top 11)) t_is_square :=
  jb_one (js_ret (je_cmp (opD_eq d.toJC.room) (je_op opD_pow (je_call d.toJC (Tj_whole_root T) (by decide) (mm 0) (ja_cons (jv d.toJC 0 (mm 0) rfl) (ja_nil))) (je_int)) (jv d.toJC 0 (mm 0) rfl) rfl))
theorem Tj_is_square (T : Tp fa fn bx K mg) : JF P w K mg base "is_square" 1 [] (fun ds _ => ds) 2 m_is_square := by
  obtain ⟨fd, F⟩ := T.sy.def_ 13 (d := d_is_square) rfl
  exact jf_mkN F fs_is_square sc_is_square (T.glo 34) ⟨rfl, by decide, by decide⟩ (fun _ _ _ _ _ _ us hl => match us, hl with | [_], _ => rfl) (fun X W d => body_is_square T d)
theorem body_root (T : Tp fa fn bx K mg) {X : Cx} {W : WX} (d : JD P w K mg base nm_root (defScope (top 13)) vw_root 3 X W) : JB X W (defBody (top 13)) t_root :=
  jb_cons (js_if (jt_cmp opD_lt (je_ix (jv d.toJC 2 (mm 2) rfl) (je_int)) (je_int) rfl) (jb_one (js_raiseV d.toJC (mm 0) (T.sy.fact 32 rfl) (T.sy.fact 33 rfl) (T.glo 32))) (jb_nil)) (jb_cons (js_if (jt_w (jw_or (jt_cmp (opD_eq d.toJC.room) (jv d.toJC 1 (mm 1) rfl) (je_int) rfl) (jw_or1 (jt_cmp (opD_eq d.toJC.room) (je_ix (jv d.toJC 2 (mm 2) rfl) (je_int)) (je_int) rfl)))) (jb_one (js_ret (je_tup (ja_cons (jv d.toJC 0 (mm 0) rfl) (ja_cons (je_int) (ja_cons (je_glob d.toJC (mm 1) (Tk_ZERO T)) (ja_nil))))))) (jb_nil)) (jb_cons (js_if (jt_w (jw_and (jt_tru (je_call d.toJC (Tj_is_square T) (by decide) (mm 2) (ja_cons (je_ix (jv d.toJC 2 (mm 2) rfl) (je_int)) (ja_nil)))) (jw_and1 (jt_tru (je_call d.toJC (Tj_is_square T) (by decide) (mm 2) (ja_cons (je_ix (jv d.toJC 2 (mm 2) rfl) (je_int)) (ja_nil))))))) (jb_one (js_ret (je_tup (ja_cons (je_call d.toJC (Tj_plus T) (by decide) (mm 3) (ja_cons (jv d.toJC 0 (mm 0) rfl) (ja_cons (je_tup (ja_cons (je_op opD_mul (jv d.toJC 1 (mm 1) rfl) (je_call d.toJC (Tj_whole_root T) (by decide) (mm 4) (ja_cons (je_ix (jv d.toJC 2 (mm 2) rfl) (je_int)) (ja_nil)))) (ja_cons (je_call d.toJC (Tj_whole_root T) (by decide) (mm 4) (ja_cons (je_ix (jv d.toJC 2 (mm 2) rfl) (je_int)) (ja_nil))) (ja_nil)))) (ja_nil)))) (ja_cons (je_int) (ja_cons (je_glob d.toJC (mm 1) (Tk_ZERO T)) (ja_nil))))))) (jb_nil)) (jb_one (js_ret (je_tup (ja_cons (jv d.toJC 0 (mm 0) rfl) (ja_cons (jv d.toJC 1 (mm 1) rfl) (ja_cons (jv d.toJC 2 (mm 2) rfl) (ja_nil)))))))))
theorem Tj_root_sign_square (T : Tp fa fn bx K mg) : JF P w K mg base "root" 1 ["sign", "square"] (fun a b => g_root_sign_square a b) 4 m_root := by
  obtain ⟨fd, F⟩ := T.sy.def_ 14 (d := d_root) rfl
  exact jf_mkW 1 ["sign", "square"] F fs_root sc_root (T.glo 30) ⟨rfl, by decide, by decide⟩ g_root_sign_square (fun {us ws} l1 l2 => match us, ws, l1, l2 with | [_], [_, _], _, _ => rfl) (fun {Z S H ds zs vs ws} r r2 l1 l2 => match ds, zs, vs, ws, r, r2, l1, l2 with | [_], [_, _], _, _, .cons a0 .nil, .cons b_sign (.cons b_square .nil), _, _ => .cons a0 (.cons b_sign (.cons b_square .nil))) (fun {vs zs us ws} r r2 l1 l2 => match vs, zs, us, ws, r, r2, l1, l2 with | [_], [_, _], _, _, .cons a0 .nil, .cons b_sign (.cons b_square .nil), _, _ => .cons a0 (.cons b_sign (.cons b_square .nil))) (fun _ _ _ _ _ _ us ws l1 l2 => match us, ws, l1, l2 with | [_], [_, _], _, _ => rfl) (fun X W d => body_root T d)
theorem body_dot_of (T : Tp fa fn bx K mg) {X : Cx} {W : WX} (d : JD P w K mg base nm_dot_of (defScope (top 20)) vw_dot_of 0 X W) : JB X W (defBody (top 20)) t_dot_of :=
  jb_one (js_ret (je_op opD_add (je_op opD_mul (je_ix (jv d.toJC 0 (mm 0) rfl) (je_int)) (je_ix (jv d.toJC 1 (mm 1) rfl) (je_int))) (je_op opD_mul (je_ix (jv d.toJC 0 (mm 0) rfl) (je_int)) (je_ix (jv d.toJC 1 (mm 1) rfl) (je_int)))))
theorem Tj_dot_of (T : Tp fa fn bx K mg) : JF P w K mg base "dot_of" 2 [] (fun ds _ => ds) 1 m_dot_of := by
  obtain ⟨fd, F⟩ := T.sy.def_ 15 (d := d_dot_of) rfl
  exact jf_mkN F fs_dot_of sc_dot_of (T.glo 31) ⟨rfl, by decide, by decide⟩ (fun _ _ _ _ _ _ us hl => match us, hl with | [_, _], _ => rfl) (fun X W d => body_dot_of T d)
theorem body_cross_of (T : Tp fa fn bx K mg) {X : Cx} {W : WX} (d : JD P w K mg base nm_cross_of (defScope (top 19)) vw_cross_of 0 X W) : JB X W (defBody (top 19)) t_cross_of :=
  jb_one (js_ret (je_op opD_sub (je_op opD_mul (je_ix (jv d.toJC 0 (mm 0) rfl) (je_int)) (je_ix (jv d.toJC 1 (mm 1) rfl) (je_int))) (je_op opD_mul (je_ix (jv d.toJC 0 (mm 0) rfl) (je_int)) (je_ix (jv d.toJC 1 (mm 1) rfl) (je_int)))))
theorem Tj_cross_of (T : Tp fa fn bx K mg) : JF P w K mg base "cross_of" 2 [] (fun ds _ => ds) 1 m_cross_of := by
  obtain ⟨fd, F⟩ := T.sy.def_ 16 (d := d_cross_of) rfl
  exact jf_mkN F fs_cross_of sc_cross_of (T.glo 37) ⟨rfl, by decide, by decide⟩ (fun _ _ _ _ _ _ us hl => match us, hl with | [_, _], _ => rfl) (fun X W d => body_cross_of T d)
theorem body_is_out (T : Tp fa fn bx K mg) {X : Cx} {W : WX} (d : JD P w K mg base nm_is_out (defScope (top 26)) vw_is_out 1 X W) : JB X W (defBody (top 26)) t_is_out :=
  jb_cons (js_asg (je_sl (jv d.toJC 0 (mm 0) rfl) (jo_some (je_int)) (jo_none)) (jg_tup d.toJC.calm (jgs_cons (jg_name d.toJC 2 rfl (.inl (d.toJC.sC.loc 2 (mm 2) _ rfl))) (jgs_cons (jg_name d.toJC 3 rfl (.inl (d.toJC.sC.loc 3 (mm 3) _ rfl))) (jgs_nil))))) (jb_cons (js_if (jt_cmp (opD_eq d.toJC.room) (jv d.toJC 2 (mm 2) rfl) (jv d.toJC 3 (mm 3) rfl) rfl) (jb_one (js_ret (je_bl))) (jb_nil)) (jb_one (js_ret (je_and (je_cmp opD_ge (je_call d.toJC (Tj_cross_of T) (by decide) (mm 0) (ja_cons (jv d.toJC 2 (mm 2) rfl) (ja_cons (jv d.toJC 1 (mm 1) rfl) (ja_nil)))) (je_int) rfl) (je_one (je_cmp opD_ge (je_call d.toJC (Tj_cross_of T) (by decide) (mm 0) (ja_cons (jv d.toJC 1 (mm 1) rfl) (ja_cons (jv d.toJC 3 (mm 3) rfl) (ja_nil)))) (je_int) rfl))))))
theorem Tj_is_out (T : Tp fa fn bx K mg) : JF P w K mg base "is_out" 2 [] (fun ds _ => ds) 2 m_is_out := by
  obtain ⟨fd, F⟩ := T.sy.def_ 17 (d := d_is_out) rfl
  exact jf_mkN F fs_is_out sc_is_out (T.glo 28) ⟨rfl, by decide, by decide⟩ (fun _ _ _ _ _ _ us hl => match us, hl with | [_, _], _ => rfl) (fun X W d => body_is_out T d)
theorem body_against (T : Tp fa fn bx K mg) {X : Cx} {W : WX} (d : JD P w K mg base nm_against (defScope (top 31)) vw_against 0 X W) : JB X W (defBody (top 31)) t_against :=
  jb_one (js_ret (je_tup (ja_cons (je_op opD_sub (je_int) (je_ix (jv d.toJC 0 (mm 0) rfl) (je_int))) (ja_cons (je_op opD_sub (je_int) (je_ix (jv d.toJC 0 (mm 0) rfl) (je_int))) (ja_nil)))))
theorem Tj_against (T : Tp fa fn bx K mg) : JF P w K mg base "against" 1 [] (fun ds _ => ds) 1 m_against := by
  obtain ⟨fd, F⟩ := T.sy.def_ 18 (d := d_against) rfl
  exact jf_mkN F fs_against sc_against (T.glo 29) ⟨rfl, by decide, by decide⟩ (fun _ _ _ _ _ _ us hl => match us, hl with | [_], _ => rfl) (fun X W d => body_against T d)
theorem body_rounds_apart (T : Tp fa fn bx K mg) {X : Cx} {W : WX} (d : JD P w K mg base nm_rounds_apart (defScope (top 32)) vw_rounds_apart 4 X W) : JB X W (defBody (top 32)) t_rounds_apart :=
  jb_cons (js_set d.toJC 2 rfl (.inl (d.toJC.sC.loc 2 (mm 2) _ rfl)) (je_call d.toJC (Tj_step_from T) (by decide) (mm 0) (ja_cons (je_ix (jv d.toJC 1 (mm 1) rfl) (je_int)) (ja_cons (je_ix (jv d.toJC 0 (mm 0) rfl) (je_int)) (ja_nil))))) (jb_cons (js_if (jt_w (jw_or (jt_cmp (opD_eq d.toJC.room) (jv d.toJC 2 (mm 2) rfl) (je_tup (ja_cons (je_int) (ja_cons (je_int) (ja_nil)))) rfl) (jw_or (jt_not (jt_tru (je_call d.toJC (Tj_is_out T) (by decide) (mm 1) (ja_cons (jv d.toJC 0 (mm 0) rfl) (ja_cons (jv d.toJC 2 (mm 2) rfl) (ja_nil)))))) (jw_or1 (jt_not (jt_tru (je_call d.toJC (Tj_is_out T) (by decide) (mm 1) (ja_cons (jv d.toJC 1 (mm 1) rfl) (ja_cons (je_call d.toJC (Tj_against T) (by decide) (mm 2) (ja_cons (jv d.toJC 2 (mm 2) rfl) (ja_nil))) (ja_nil)))))))))) (jb_one (js_ret (je_non))) (jb_nil)) (jb_one (js_ret (je_callK d.toJC (Tj_root_sign_square T) (by decide) (mm 3) (ja_cons (je_tup (ja_cons (je_op opD_sub (je_op opD_sub (je_int) (je_ix (jv d.toJC 0 (mm 0) rfl) (je_int))) (je_ix (jv d.toJC 1 (mm 1) rfl) (je_int))) (ja_cons (je_int) (ja_nil)))) (ja_nil)) (jk_cons (je_int) (jk_cons (je_tup (ja_cons (je_call d.toJC (Tj_dot_of T) (by decide) (mm 4) (ja_cons (jv d.toJC 2 (mm 2) rfl) (ja_cons (jv d.toJC 2 (mm 2) rfl) (ja_nil)))) (ja_cons (je_int) (ja_nil)))) (jk_nil)))))))
theorem Tj_rounds_apart (T : Tp fa fn bx K mg) : JF P w K mg base "rounds_apart" 2 [] (fun ds _ => ds) 5 m_rounds_apart := by
  obtain ⟨fd, F⟩ := T.sy.def_ 19 (d := d_rounds_apart) rfl
  exact jf_mkN F fs_rounds_apart sc_rounds_apart (T.glo 27) ⟨rfl, by decide, by decide⟩ (fun _ _ _ _ _ _ us hl => match us, hl with | [_, _], _ => rfl) (fun X W d => body_rounds_apart T d)
theorem body_length_of (T : Tp fa fn bx K mg) {X : Cx} {W : WX} (d : JD P w K mg base nm_length_of (defScope (top 25)) vw_length_of 1 X W) : JB X W (defBody (top 25)) t_length_of :=
  jb_one (js_ret (je_call d.toJC (Tj_whole_root T) (by decide) (mm 0) (ja_cons (je_call d.toJC (Tj_dot_of T) (by decide) (mm 1) (ja_cons (jv d.toJC 0 (mm 0) rfl) (ja_cons (jv d.toJC 0 (mm 0) rfl) (ja_nil)))) (ja_nil))))
theorem Tj_length_of (T : Tp fa fn bx K mg) : JF P w K mg base "length_of" 1 [] (fun ds _ => ds) 2 m_length_of := by
  obtain ⟨fd, F⟩ := T.sy.def_ 20 (d := d_length_of) rfl
  exact jf_mkN F fs_length_of sc_length_of (T.glo 40) ⟨rfl, by decide, by decide⟩ (fun _ _ _ _ _ _ us hl => match us, hl with | [_], _ => rfl) (fun X W d => body_length_of T d)
theorem body_steps_from (T : Tp fa fn bx K mg) {X : Cx} {W : WX} (d : JD P w K mg base nm_steps_from (defScope (top 28)) vw_steps_from 0 X W) : JB X W (defBody (top 28)) t_steps_from :=
  jb_one (js_ret (je_tup (ja_cons (je_op opD_sub (je_ix (jv d.toJC 1 (mm 1) rfl) (je_int)) (je_op opD_mul (je_ix (jv d.toJC 0 (mm 0) rfl) (je_int)) (je_ix (jv d.toJC 1 (mm 1) rfl) (je_int)))) (ja_cons (je_op opD_sub (je_ix (jv d.toJC 1 (mm 1) rfl) (je_int)) (je_op opD_mul (je_ix (jv d.toJC 0 (mm 0) rfl) (je_int)) (je_ix (jv d.toJC 1 (mm 1) rfl) (je_int)))) (ja_nil)))))
theorem Tj_steps_from (T : Tp fa fn bx K mg) : JF P w K mg base "steps_from" 2 [] (fun ds _ => ds) 1 m_steps_from := by
  obtain ⟨fd, F⟩ := T.sy.def_ 21 (d := d_steps_from) rfl
  exact jf_mkN F fs_steps_from sc_steps_from (T.glo 41) ⟨rfl, by decide, by decide⟩ (fun _ _ _ _ _ _ us hl => match us, hl with | [_, _], _ => rfl) (fun X W d => body_steps_from T d)
theorem body_side_height (T : Tp fa fn bx K mg) {X : Cx} {W : WX} (d : JD P w K mg base nm_side_height (defScope (top 29)) vw_side_height 3 X W) : JB X W (defBody (top 29)) t_side_height :=
  jb_one (js_ret (je_call d.toJC (Tj_dot_of T) (by decide) (mm 0) (ja_cons (je_call d.toJC (Tj_steps_from T) (by decide) (mm 1) (ja_cons (je_ix (jv d.toJC 0 (mm 0) rfl) (je_int)) (ja_cons (jv d.toJC 1 (mm 1) rfl) (ja_nil)))) (ja_cons (je_call d.toJC (Tj_outward T) (by decide) (mm 2) (ja_cons (je_ix (jv d.toJC 0 (mm 0) rfl) (je_int)) (ja_cons (je_ix (jv d.toJC 0 (mm 0) rfl) (je_int)) (ja_nil)))) (ja_nil)))))
theorem Tj_side_height (T : Tp fa fn bx K mg) : JF P w K mg base "side_height" 2 [] (fun ds _ => ds) 4 m_side_height := by
  obtain ⟨fd, F⟩ := T.sy.def_ 22 (d := d_side_height) rfl
  exact jf_mkN F fs_side_height sc_side_height (T.glo 39) ⟨rfl, by decide, by decide⟩ (fun _ _ _ _ _ _ us hl => match us, hl with | [_, _], _ => rfl) (fun X W d => body_side_height T d)
theorem body_is_beside (T : Tp fa fn bx K mg) {X : Cx} {W : WX} (d : JD P w K mg base nm_is_beside (defScope (top 30)) vw_is_beside 1 X W) : JB X W (defBody (top 30)) t_is_beside :=
  jb_cons (js_set d.toJC 2 rfl (.inl (d.toJC.sC.loc 2 (mm 2) _ rfl)) (je_call d.toJC (Tj_step_from T) (by decide) (mm 0) (ja_cons (je_ix (jv d.toJC 0 (mm 0) rfl) (je_int)) (ja_cons (je_ix (jv d.toJC 0 (mm 0) rfl) (je_int)) (ja_nil))))) (jb_one (js_ret (je_chain opD_le opD_le (je_int) (je_call d.toJC (Tj_dot_of T) (by decide) (mm 1) (ja_cons (je_call d.toJC (Tj_steps_from T) (by decide) (mm 2) (ja_cons (je_ix (jv d.toJC 0 (mm 0) rfl) (je_int)) (ja_cons (jv d.toJC 1 (mm 1) rfl) (ja_nil)))) (ja_cons (jv d.toJC 2 (mm 2) rfl) (ja_nil)))) (je_op opD_mul (je_call d.toJC (Tj_dot_of T) (by decide) (mm 1) (ja_cons (jv d.toJC 2 (mm 2) rfl) (ja_cons (jv d.toJC 2 (mm 2) rfl) (ja_nil)))) (je_ix (jv d.toJC 1 (mm 1) rfl) (je_int))))))
theorem Tj_is_beside (T : Tp fa fn bx K mg) : JF P w K mg base "is_beside" 2 [] (fun ds _ => ds) 2 m_is_beside := by
  obtain ⟨fd, F⟩ := T.sy.def_ 23 (d := d_is_beside) rfl
  exact jf_mkN F fs_is_beside sc_is_beside (T.glo 38) ⟨rfl, by decide, by decide⟩ (fun _ _ _ _ _ _ us hl => match us, hl with | [_, _], _ => rfl) (fun X W d => body_is_beside T d)
theorem body_side_apart (T : Tp fa fn bx K mg) {X : Cx} {W : WX} (d : JD P w K mg base nm_side_apart (defScope (top 33)) vw_side_apart 4 X W) : JB X W (defBody (top 33)) t_side_apart :=
  jb_cons (js_set d.toJC 2 rfl (.inl (d.toJC.sC.loc 2 (mm 2) _ rfl)) (je_call d.toJC (Tj_outward T) (by decide) (mm 0) (ja_cons (je_ix (jv d.toJC 0 (mm 0) rfl) (je_int)) (ja_cons (je_ix (jv d.toJC 0 (mm 0) rfl) (je_int)) (ja_nil))))) (jb_cons (js_set d.toJC 3 rfl (.inl (d.toJC.sC.loc 3 (mm 3) _ rfl)) (je_tup (ja_cons (je_ix (je_ix (jv d.toJC 1 (mm 1) rfl) (je_int)) (je_int)) (ja_cons (je_ix (je_ix (jv d.toJC 1 (mm 1) rfl) (je_int)) (je_int)) (ja_cons (je_int) (ja_nil)))))) (jb_cons (js_if (jt_w (jw_or (jt_not (jt_tru (je_call d.toJC (Tj_is_beside T) (by decide) (mm 1) (ja_cons (jv d.toJC 0 (mm 0) rfl) (ja_cons (jv d.toJC 3 (mm 3) rfl) (ja_nil)))))) (jw_or1 (jt_not (jt_tru (je_call d.toJC (Tj_is_out T) (by decide) (mm 2) (ja_cons (jv d.toJC 1 (mm 1) rfl) (ja_cons (je_call d.toJC (Tj_against T) (by decide) (mm 3) (ja_cons (jv d.toJC 2 (mm 2) rfl) (ja_nil))) (ja_nil))))))))) (jb_one (js_ret (je_non))) (jb_nil)) (jb_one (js_ret (je_call d.toJC (Tj_from_frac T) (by decide) (mm 4) (ja_cons (je_call d.toJC (Tj_frac T) (by decide) (mm 5) (ja_cons (je_op opD_sub (je_call d.toJC (Tj_side_height T) (by decide) (mm 6) (ja_cons (jv d.toJC 0 (mm 0) rfl) (ja_cons (jv d.toJC 3 (mm 3) rfl) (ja_nil)))) (je_op opD_mul (je_ix (jv d.toJC 1 (mm 1) rfl) (je_int)) (je_call d.toJC (Tj_length_of T) (by decide) (mm 7) (ja_cons (jv d.toJC 2 (mm 2) rfl) (ja_nil))))) (ja_cons (je_call d.toJC (Tj_length_of T) (by decide) (mm 7) (ja_cons (jv d.toJC 2 (mm 2) rfl) (ja_nil))) (ja_nil)))) (ja_nil)))))))
theorem Tj_side_apart (T : Tp fa fn bx K mg) : JF P w K mg base "side_apart" 2 [] (fun ds _ => ds) 5 m_side_apart := by
  obtain ⟨fd, F⟩ := T.sy.def_ 24 (d := d_side_apart) rfl
  exact jf_mkN F fs_side_apart sc_side_apart (T.glo 26) ⟨rfl, by decide, by decide⟩ (fun _ _ _ _ _ _ us hl => match us, hl with | [_, _], _ => rfl) (fun X W d => body_side_apart T d)
theorem body_faces_apart (T : Tp fa fn bx K mg) {X : Cx} {W : WX} (d : JD P w K mg base nm_faces_apart (defScope (top 34)) vw_faces_apart 5 X W) : JB X W (defBody (top 34)) t_faces_apart :=
  jb_cons (js_if (jt_w (jw_and (jt_cmp (opD_eq d.toJC.room) (je_ix (jv d.toJC 0 (mm 0) rfl) (je_int)) (je_str) rfl) (jw_and1 (jt_cmp (opD_eq d.toJC.room) (je_ix (jv d.toJC 1 (mm 1) rfl) (je_int)) (je_str) rfl)))) (jb_one (js_ret (je_non))) (jb_nil)) (jb_cons (js_if (jt_cmp (opD_eq d.toJC.room) (je_ix (jv d.toJC 0 (mm 0) rfl) (je_int)) (je_str) rfl) (jb_one (js_ret (je_call d.toJC (Tj_side_apart T) (by decide) (mm 0) (ja_cons (jv d.toJC 0 (mm 0) rfl) (ja_cons (jv d.toJC 1 (mm 1) rfl) (ja_nil)))))) (jb_nil)) (jb_one (js_ret (je_ifExp (jt_cmp (opD_eq d.toJC.room) (je_ix (jv d.toJC 1 (mm 1) rfl) (je_int)) (je_str) rfl) (je_call d.toJC (Tj_side_apart T) (by decide) (mm 0) (ja_cons (jv d.toJC 1 (mm 1) rfl) (ja_cons (jv d.toJC 0 (mm 0) rfl) (ja_nil)))) (je_call d.toJC (Tj_rounds_apart T) (by decide) (mm 1) (ja_cons (jv d.toJC 0 (mm 0) rfl) (ja_cons (jv d.toJC 1 (mm 1) rfl) (ja_nil))))))))
theorem Tj_faces_apart (T : Tp fa fn bx K mg) : JF P w K mg base "faces_apart" 2 [] (fun ds _ => ds) 6 m_faces_apart := by
  obtain ⟨fd, F⟩ := T.sy.def_ 25 (d := d_faces_apart) rfl
  exact jf_mkN F fs_faces_apart sc_faces_apart (T.glo 13) ⟨rfl, by decide, by decide⟩ (fun _ _ _ _ _ _ us hl => match us, hl with | [_, _], _ => rfl) (fun X W d => body_faces_apart T d)
theorem body_apart (T : Tp fa fn bx K mg) {X : Cx} {W : WX} (d : JD P w K mg base nm_apart (defScope (top 35)) vw_apart 6 X W) : JB X W (defBody (top 35)) t_apart :=
  jb_cons (js_for d (ji_val (je_call d.toJC (Tj_faces T) (by decide) (mm 0) (ja_cons (jv d.toJC 0 (mm 0) rfl) (ja_nil)))) (jg_name d.toJC 2 rfl (.inl (d.toJC.sC.loc 2 (mm 2) _ rfl))) (jb_one (js_for d (ji_val (je_call d.toJC (Tj_faces T) (by decide) (mm 0) (ja_cons (jv d.toJC 1 (mm 1) rfl) (ja_nil)))) (jg_name d.toJC 3 rfl (.inl (d.toJC.sC.loc 3 (mm 3) _ rfl))) (jb_cons (js_set d.toJC 4 rfl (.inl (d.toJC.sC.loc 4 (mm 4) _ rfl)) (je_call d.toJC (Tj_faces_apart T) (by decide) (mm 1) (ja_cons (jv d.toJC 2 (mm 2) rfl) (ja_cons (jv d.toJC 3 (mm 3) rfl) (ja_nil))))) (jb_one (js_if (jt_w (jw_and (jt_cmp opD_isNot (jv d.toJC 4 (mm 4) rfl) (je_non) rfl) (jw_and1 (jt_cmp opD_gt (je_call d.toJC (Tj_root_sign T) (by decide) (mm 2) (ja_cons (jv d.toJC 4 (mm 4) rfl) (ja_nil))) (je_int) rfl)))) (jb_one (js_ret (jv d.toJC 4 (mm 4) rfl))) (jb_nil))))))) (jb_one (js_ret (je_call d.toJC (Tj_from_frac T) (by decide) (mm 3) (ja_cons (je_glob d.toJC (mm 4) (Tk_ZERO T)) (ja_nil)))))
theorem Tj_apart (T : Tp fa fn bx K mg) : JF P w K mg base "apart" 2 [] (fun ds _ => ds) 7 m_apart := by
  obtain ⟨fd, F⟩ := T.sy.def_ 26 (d := d_apart) rfl
  exact jf_mkN F fs_apart sc_apart (T.glo 11) ⟨rfl, by decide, by decide⟩ (fun _ _ _ _ _ _ us hl => match us, hl with | [_, _], _ => rfl) (fun X W d => body_apart T d)
theorem body_l_bag (T : Tp fa fn bx K mg) {X : Cx} {W : WX} (d : JD P w K mg base nm_l_bag (defScope (top 37)) vw_l_bag 0 X W) : JB X W (defBody (top 37)) t_l_bag :=
  jb_cons (js_set d.toJC 2 rfl (.inl (d.toJC.sC.loc 2 (mm 2) _ rfl)) (je_int)) (jb_cons (js_if (jt_cmp opD_lt (jv d.toJC 1 (mm 1) rfl) (je_callB d.toJC cd_len (mm 0) (T.free 3) (by decide +kernel) (ja_cons (jv d.toJC 0 (mm 0) rfl) (ja_nil))) rfl) (jb_one (js_set d.toJC 2 rfl (.inl (d.toJC.sC.loc 2 (mm 2) _ rfl)) (je_ix (jv d.toJC 0 (mm 0) rfl) (jv d.toJC 1 (mm 1) rfl)))) (jb_nil)) (jb_cons (js_set d.toJC 3 rfl (.inl (d.toJC.sC.loc 3 (mm 3) _ rfl)) (je_int)) (jb_cons (js_if (jt_cmp opD_ge (je_callB d.toJC cd_abs (mm 1) (T.free 25) (by decide +kernel) (ja_cons (jv d.toJC 2 (mm 2) rfl) (ja_nil))) (je_op opD_pow (je_int) (je_int)) rfl) (jb_one (js_set d.toJC 3 rfl (.inl (d.toJC.sC.loc 3 (mm 3) _ rfl)) (je_callB d.toJC cd_abs (mm 1) (T.free 25) (by decide +kernel) (ja_cons (jv d.toJC 2 (mm 2) rfl) (ja_nil))))) (jb_nil)) (jb_cons (js_set d.toJC 4 rfl (.inl (d.toJC.sC.loc 4 (mm 4) _ rfl)) (je_lst (ja_cons (je_int) (ja_cons (je_int) (ja_cons (je_int) (ja_cons (je_int) (ja_cons (je_int) (ja_cons (je_int) (ja_cons (je_int) (ja_cons (je_int) (ja_nil))))))))))) (jb_one (js_ret (je_lstR (ja_cons (jv d.toJC 3 (mm 3) rfl) (ja_cons (je_op opD_mod (je_op opD_pow (je_op opD_add (je_op opD_add (je_op opD_mod (jv d.toJC 2 (mm 2) rfl) (je_int)) (je_op opD_mul (je_int) (jv d.toJC 1 (mm 1) rfl))) (je_int)) (je_int)) (je_ix (jv d.toJC 4 (mm 4) rfl) (je_op opD_mod (jv d.toJC 1 (mm 1) rfl) (je_int)))) (ja_nil))))))))))
theorem Tj_l_bag (T : Tp fa fn bx K mg) : JF P w K mg base "_law_bag" 2 [] (fun ds _ => ds) 1 m_l_bag := by
  obtain ⟨fd, F⟩ := T.sy.def_ 27 (d := d_l_bag) rfl
  exact jf_mkN F fs_l_bag sc_l_bag (T.glo 4) ⟨rfl, by decide, by decide⟩ (fun _ _ _ _ _ _ us hl => match us, hl with | [_, _], _ => rfl) (fun X W d => body_l_bag T d)
theorem body_l_take (T : Tp fa fn bx K mg) {X : Cx} {W : WX} (d : JD P w K mg base nm_l_take (defScope (top 38)) vw_l_take 0 X W) : JB X W (defBody (top 38)) t_l_take :=
  jb_cons (js_if (jt_cmp opD_gt (je_ix (jv d.toJC 0 (mm 0) rfl) (je_int)) (je_int) rfl) (jb_cons (js_set d.toJC 2 rfl (.inl (d.toJC.sC.loc 2 (mm 2) _ rfl)) (je_op opD_mod (je_ix (jv d.toJC 0 (mm 0) rfl) (je_int)) (jv d.toJC 1 (mm 1) rfl))) (jb_cons (js_sub (jv d.toJC 0 (mm 0) rfl) (je_int) (je_op opD_div (je_ix (jv d.toJC 0 (mm 0) rfl) (je_int)) (jv d.toJC 1 (mm 1) rfl))) (jb_one (js_ret (jv d.toJC 2 (mm 2) rfl))))) (jb_nil)) (jb_cons (js_sub (jv d.toJC 0 (mm 0) rfl) (je_int) (je_op opD_mod (je_op opD_add (je_op opD_mul (je_ix (jv d.toJC 0 (mm 0) rfl) (je_int)) (je_int)) (je_int)) (je_int))) (jb_one (js_ret (je_op opD_mod (je_op opD_mod (je_op opD_pow (je_op opD_div (je_ix (jv d.toJC 0 (mm 0) rfl) (je_int)) (je_int)) (je_int)) (je_int)) (jv d.toJC 1 (mm 1) rfl)))))
theorem Tj_l_take (T : Tp fa fn bx K mg) : JF P w K mg base "_law_take" 2 [] (fun ds _ => ds) 1 m_l_take := by
  obtain ⟨fd, F⟩ := T.sy.def_ 28 (d := d_l_take) rfl
  exact jf_mkN F fs_l_take sc_l_take (T.glo 5) ⟨rfl, by decide, by decide⟩ (fun _ _ _ _ _ _ us hl => match us, hl with | [_, _], _ => rfl) (fun X W d => body_l_take T d)
theorem body_l_turned (T : Tp fa fn bx K mg) {X : Cx} {W : WX} (d : JD P w K mg base nm_l_turned (defScope (top 39)) vw_l_turned 0 X W) : JB X W (defBody (top 39)) t_l_turned :=
  jb_cons (js_asg (jv d.toJC 0 (mm 0) rfl) (jg_tup d.toJC.calm (jgs_cons (jg_name d.toJC 2 rfl (.inl (d.toJC.sC.loc 2 (mm 2) _ rfl))) (jgs_cons (jg_name d.toJC 3 rfl (.inl (d.toJC.sC.loc 3 (mm 3) _ rfl))) (jgs_nil))))) (jb_cons (js_for d (ji_r1 d.toJC (mm 0) (T.free 0) (ja_cons (je_op opD_mod (jv d.toJC 1 (mm 1) rfl) (je_int)) (ja_nil))) (jg_name d.toJC 4 rfl (.inl (d.toJC.sC.loc 4 (mm 4) _ rfl))) (jb_one (js_par d.toJC 2 3 rfl rfl (by decide) (d.toJC.sC.loc 2 (mm 2) _ rfl) (d.toJC.sC.loc 3 (mm 3) _ rfl) (ja_cons (je_op opD_sub (je_int) (jv d.toJC 3 (mm 3) rfl)) (ja_cons (jv d.toJC 2 (mm 2) rfl) (ja_nil))) (sw2 d.toJC.kd (by rw [d.toJC.ss]; exact (d.toJC.sC.loc 2 (mm 2) _ rfl)) (by rw [d.toJC.ss]; exact (d.toJC.sC.loc 3 (mm 3) _ rfl)) rfl (by decide +kernel) rfl rfl rfl)))) (jb_one (js_ret (je_tup (ja_cons (jv d.toJC 2 (mm 2) rfl) (ja_cons (jv d.toJC 3 (mm 3) rfl) (ja_nil)))))))
theorem Tj_l_turned (T : Tp fa fn bx K mg) : JF P w K mg base "_law_turned" 2 [] (fun ds _ => ds) 1 m_l_turned := by
  obtain ⟨fd, F⟩ := T.sy.def_ 29 (d := d_l_turned) rfl
  exact jf_mkN F fs_l_turned sc_l_turned (T.glo 43) ⟨rfl, by decide, by decide⟩ (fun _ _ _ _ _ _ us hl => match us, hl with | [_, _], _ => rfl) (fun X W d => body_l_turned T d)
theorem body_l_thing (T : Tp fa fn bx K mg) {X : Cx} {W : WX} (d : JD P w K mg base nm_l_thing (defScope (top 40)) vw_l_thing 1 X W) : JB X W (defBody (top 40)) t_l_thing :=
  jb_cons (js_par d.toJC 3 4 rfl rfl (by decide) (d.toJC.sC.loc 3 (mm 3) _ rfl) (d.toJC.sC.loc 4 (mm 4) _ rfl) (ja_cons (je_op opD_add (je_int) (je_call d.toJC (Tj_l_take T) (by decide) (mm 0) (ja_cons (jv d.toJC 0 (mm 0) rfl) (ja_cons (je_int) (ja_nil))))) (ja_cons (je_call d.toJC (Tj_l_take T) (by decide) (mm 0) (ja_cons (jv d.toJC 0 (mm 0) rfl) (ja_cons (je_int) (ja_nil)))) (ja_nil))) (sw2 d.toJC.kd (by rw [d.toJC.ss]; exact (d.toJC.sC.loc 3 (mm 3) _ rfl)) (by rw [d.toJC.ss]; exact (d.toJC.sC.loc 4 (mm 4) _ rfl)) rfl (by decide +kernel) rfl rfl rfl)) (jb_cons (js_set d.toJC 5 rfl (.inl (d.toJC.sC.loc 5 (mm 5) _ rfl)) (je_tup (ja_cons (je_op opD_sub (je_call d.toJC (Tj_l_take T) (by decide) (mm 0) (ja_cons (jv d.toJC 0 (mm 0) rfl) (ja_cons (je_op opD_add (je_op opD_mul (je_int) (jv d.toJC 1 (mm 1) rfl)) (je_int)) (ja_nil)))) (jv d.toJC 1 (mm 1) rfl)) (ja_cons (je_op opD_sub (je_call d.toJC (Tj_l_take T) (by decide) (mm 0) (ja_cons (jv d.toJC 0 (mm 0) rfl) (ja_cons (je_op opD_add (je_op opD_mul (je_int) (jv d.toJC 1 (mm 1) rfl)) (je_int)) (ja_nil)))) (jv d.toJC 1 (mm 1) rfl)) (ja_nil))))) (jb_cons (js_set d.toJC 6 rfl (.inl (d.toJC.sC.loc 6 (mm 6) _ rfl)) (je_lst (ja_cons (je_tup (ja_cons (je_int) (ja_cons (je_int) (ja_nil)))) (ja_cons (je_tup (ja_cons (je_int) (ja_cons (je_int) (ja_nil)))) (ja_cons (je_tup (ja_cons (je_int) (ja_cons (je_int) (ja_nil)))) (ja_cons (je_tup (ja_cons (je_int) (ja_cons (je_int) (ja_nil)))) (ja_cons (je_tup (ja_cons (je_int) (ja_cons (je_int) (ja_nil)))) (ja_cons (je_tup (ja_cons (je_int) (ja_cons (je_int) (ja_nil)))) (ja_cons (je_tup (ja_cons (je_int) (ja_cons (je_int) (ja_nil)))) (ja_cons (je_tup (ja_cons (je_int) (ja_cons (je_int) (ja_nil)))) (ja_nil))))))))))) (jb_cons (js_set d.toJC 7 rfl (.inl (d.toJC.sC.loc 7 (mm 7) _ rfl)) (je_lst (ja_cons (je_tup (ja_cons (je_tup (ja_cons (je_int) (ja_cons (je_int) (ja_nil)))) (ja_cons (je_tup (ja_cons (je_neg (je_int)) (ja_cons (je_int) (ja_nil)))) (ja_nil)))) (ja_cons (je_tup (ja_cons (je_tup (ja_cons (je_int) (ja_cons (je_int) (ja_nil)))) (ja_cons (je_tup (ja_cons (je_neg (je_int)) (ja_cons (je_int) (ja_nil)))) (ja_nil)))) (ja_cons (je_tup (ja_cons (je_tup (ja_cons (je_int) (ja_cons (je_int) (ja_nil)))) (ja_cons (je_tup (ja_cons (je_neg (je_int)) (ja_cons (je_int) (ja_nil)))) (ja_nil)))) (ja_cons (je_tup (ja_cons (je_tup (ja_cons (je_int) (ja_cons (je_int) (ja_nil)))) (ja_cons (je_tup (ja_cons (je_neg (je_int)) (ja_cons (je_int) (ja_nil)))) (ja_nil)))) (ja_cons (je_tup (ja_cons (je_tup (ja_cons (je_int) (ja_cons (je_int) (ja_nil)))) (ja_cons (je_tup (ja_cons (je_neg (je_int)) (ja_cons (je_int) (ja_nil)))) (ja_nil)))) (ja_nil)))))))) (jb_cons (js_set d.toJC 7 rfl (.inl (d.toJC.sC.loc 7 (mm 7) _ rfl)) (je_op opD_cat (jv d.toJC 7 (mm 7) rfl) (je_lst (ja_cons (je_tup (ja_cons (je_tup (ja_cons (je_int) (ja_cons (je_int) (ja_nil)))) (ja_cons (je_tup (ja_cons (je_int) (ja_cons (je_int) (ja_nil)))) (ja_nil)))) (ja_cons (je_tup (ja_cons (je_tup (ja_cons (je_int) (ja_cons (je_int) (ja_nil)))) (ja_cons (je_tup (ja_cons (je_neg (je_int)) (ja_cons (je_int) (ja_nil)))) (ja_nil)))) (ja_cons (je_tup (ja_cons (je_tup (ja_cons (je_int) (ja_cons (je_int) (ja_nil)))) (ja_cons (je_tup (ja_cons (je_neg (je_int)) (ja_cons (je_neg (je_int)) (ja_nil)))) (ja_nil)))) (ja_cons (je_tup (ja_cons (je_tup (ja_cons (je_int) (ja_cons (je_int) (ja_nil)))) (ja_cons (je_tup (ja_cons (je_neg (je_int)) (ja_cons (je_int) (ja_nil)))) (ja_nil)))) (ja_nil)))))))) (jb_cons (js_if (jt_cmp opD_lt (jv d.toJC 2 (mm 2) rfl) (je_int) rfl) (jb_one (js_ret (je_tup (ja_cons (je_str) (ja_cons (jv d.toJC 5 (mm 5) rfl) (ja_nil)))))) (jb_nil)) (jb_cons (js_set d.toJC 8 rfl (.inl (d.toJC.sC.loc 8 (mm 8) _ rfl)) (je_lst (ja_cons (je_ix (jv d.toJC 6 (mm 6) rfl) (je_call d.toJC (Tj_l_take T) (by decide) (mm 0) (ja_cons (jv d.toJC 0 (mm 0) rfl) (ja_cons (je_int) (ja_nil))))) (ja_nil)))) (jb_cons (js_if (jt_cmp opD_gt (jv d.toJC 2 (mm 2) rfl) (je_int) rfl) (jb_one (js_set d.toJC 8 rfl (.inl (d.toJC.sC.loc 8 (mm 8) _ rfl)) (je_callTy d.toJC cd_lst (mm 1) (T.free 42) (by decide +kernel) (ja_cons (je_ix (jv d.toJC 7 (mm 7) rfl) (je_call d.toJC (Tj_l_take T) (by decide) (mm 0) (ja_cons (jv d.toJC 0 (mm 0) rfl) (ja_cons (je_int) (ja_nil))))) (ja_nil))))) (jb_nil)) (jb_cons (js_set d.toJC 9 rfl (.inl (d.toJC.sC.loc 9 (mm 9) _ rfl)) (je_lstR (ja_nil))) (jb_cons (js_for d (ji_val (jv d.toJC 8 (mm 8) rfl)) (jg_name d.toJC 10 rfl (.inl (d.toJC.sC.loc 10 (mm 10) _ rfl))) (jb_cons (js_asg (je_call d.toJC (Tj_l_turned T) (by decide) (mm 2) (ja_cons (je_tup (ja_cons (je_op opD_mul (je_ix (jv d.toJC 10 (mm 10) rfl) (je_int)) (jv d.toJC 3 (mm 3) rfl)) (ja_cons (je_op opD_mul (je_ix (jv d.toJC 10 (mm 10) rfl) (je_int)) (jv d.toJC 3 (mm 3) rfl)) (ja_nil)))) (ja_cons (jv d.toJC 4 (mm 4) rfl) (ja_nil)))) (jg_tup d.toJC.calm (jgs_cons (jg_name d.toJC 11 rfl (.inl (d.toJC.sC.loc 11 (mm 11) _ rfl))) (jgs_cons (jg_name d.toJC 12 rfl (.inl (d.toJC.sC.loc 12 (mm 12) _ rfl))) (jgs_nil))))) (jb_one (js_expr (je_append (jv d.toJC 9 (mm 9) rfl) (ja_cons (je_tup (ja_cons (je_op opD_add (je_ix (jv d.toJC 5 (mm 5) rfl) (je_int)) (jv d.toJC 11 (mm 11) rfl)) (ja_cons (je_op opD_add (je_ix (jv d.toJC 5 (mm 5) rfl) (je_int)) (jv d.toJC 12 (mm 12) rfl)) (ja_nil)))) (ja_nil))))))) (jb_cons (js_if (jt_cmp opD_lt (jv d.toJC 2 (mm 2) rfl) (je_int) rfl) (jb_one (js_ret (je_tup (ja_cons (je_str) (ja_cons (jv d.toJC 5 (mm 5) rfl) (ja_cons (je_ix (jv d.toJC 9 (mm 9) rfl) (je_int)) (ja_nil))))))) (jb_nil)) (jb_one (js_ret (je_tup (ja_cons (je_str) (ja_cons (jv d.toJC 5 (mm 5) rfl) (ja_cons (je_ix (jv d.toJC 9 (mm 9) rfl) (je_int)) (ja_cons (je_ix (jv d.toJC 9 (mm 9) rfl) (je_int)) (ja_nil))))))))))))))))))
theorem Tj_l_thing (T : Tp fa fn bx K mg) : JF P w K mg base "_law_thing" 3 [] (fun ds _ => ds) 2 m_l_thing := by
  obtain ⟨fd, F⟩ := T.sy.def_ 30 (d := d_l_thing) rfl
  exact jf_mkN F fs_l_thing sc_l_thing (T.glo 6) ⟨rfl, by decide, by decide⟩ (fun _ _ _ _ _ _ us hl => match us, hl with | [_, _, _], _ => rfl) (fun X W d => body_l_thing T d)
theorem body_l_low (T : Tp fa fn bx K mg) {X : Cx} {W : WX} (d : JD P w K mg base nm_l_low (defScope (top 41)) vw_l_low 0 X W) : JB X W (defBody (top 41)) t_l_low :=
  jb_cons (js_par d.toJC 2 3 rfl rfl (by decide) (d.toJC.sC.loc 2 (mm 2) _ rfl) (d.toJC.sC.loc 3 (mm 3) _ rfl) (ja_cons (je_callB d.toJC cd_abs (mm 0) (T.free 25) (by decide +kernel) (ja_cons (jv d.toJC 0 (mm 0) rfl) (ja_nil))) (ja_cons (jv d.toJC 1 (mm 1) rfl) (ja_nil))) (sw2 d.toJC.kd (by rw [d.toJC.ss]; exact (d.toJC.sC.loc 2 (mm 2) _ rfl)) (by rw [d.toJC.ss]; exact (d.toJC.sC.loc 3 (mm 3) _ rfl)) rfl (by decide +kernel) rfl rfl rfl)) (jb_cons (js_while d (jt_cmp opD_gt (jv d.toJC 2 (mm 2) rfl) (je_int) rfl) (jb_one (js_par d.toJC 2 3 rfl rfl (by decide) (d.toJC.sC.loc 2 (mm 2) _ rfl) (d.toJC.sC.loc 3 (mm 3) _ rfl) (ja_cons (je_op opD_mod (jv d.toJC 3 (mm 3) rfl) (jv d.toJC 2 (mm 2) rfl)) (ja_cons (jv d.toJC 2 (mm 2) rfl) (ja_nil))) (sw2 d.toJC.kd (by rw [d.toJC.ss]; exact (d.toJC.sC.loc 2 (mm 2) _ rfl)) (by rw [d.toJC.ss]; exact (d.toJC.sC.loc 3 (mm 3) _ rfl)) rfl (by decide +kernel) rfl rfl rfl)))) (jb_one (js_ret (je_tup (ja_cons (je_op opD_div (jv d.toJC 0 (mm 0) rfl) (jv d.toJC 3 (mm 3) rfl)) (ja_cons (je_op opD_div (jv d.toJC 1 (mm 1) rfl) (jv d.toJC 3 (mm 3) rfl)) (ja_nil)))))))
theorem Tj_l_low (T : Tp fa fn bx K mg) : JF P w K mg base "_law_low" 2 [] (fun ds _ => ds) 1 m_l_low := by
  obtain ⟨fd, F⟩ := T.sy.def_ 31 (d := d_l_low) rfl
  exact jf_mkN F fs_l_low sc_l_low (T.glo 52) ⟨rfl, by decide, by decide⟩ (fun _ _ _ _ _ _ us hl => match us, hl with | [_, _], _ => rfl) (fun X W d => body_l_low T d)
theorem body_l_sum (T : Tp fa fn bx K mg) {X : Cx} {W : WX} (d : JD P w K mg base nm_l_sum (defScope (top 42)) vw_l_sum 1 X W) : JB X W (defBody (top 42)) t_l_sum :=
  jb_one (js_ret (je_call d.toJC (Tj_l_low T) (by decide) (mm 0) (ja_cons (je_op opD_add (je_op opD_mul (je_ix (jv d.toJC 0 (mm 0) rfl) (je_int)) (je_ix (jv d.toJC 1 (mm 1) rfl) (je_int))) (je_op opD_mul (je_ix (jv d.toJC 1 (mm 1) rfl) (je_int)) (je_ix (jv d.toJC 0 (mm 0) rfl) (je_int)))) (ja_cons (je_op opD_mul (je_ix (jv d.toJC 0 (mm 0) rfl) (je_int)) (je_ix (jv d.toJC 1 (mm 1) rfl) (je_int))) (ja_nil)))))
theorem Tj_l_sum (T : Tp fa fn bx K mg) : JF P w K mg base "_law_sum" 2 [] (fun ds _ => ds) 2 m_l_sum := by
  obtain ⟨fd, F⟩ := T.sy.def_ 32 (d := d_l_sum) rfl
  exact jf_mkN F fs_l_sum sc_l_sum (T.glo 50) ⟨rfl, by decide, by decide⟩ (fun _ _ _ _ _ _ us hl => match us, hl with | [_, _], _ => rfl) (fun X W d => body_l_sum T d)
theorem body_l_rooted (T : Tp fa fn bx K mg) {X : Cx} {W : WX} (d : JD P w K mg base nm_l_rooted (defScope (top 43)) vw_l_rooted 0 X W) : JB X W (defBody (top 43)) t_l_rooted :=
  jb_cons (js_if (jt_cmp (opD_eq d.toJC.room) (jv d.toJC 0 (mm 0) rfl) (je_int) rfl) (jb_one (js_ret (je_int))) (jb_nil)) (jb_cons (js_set d.toJC 1 rfl (.inl (d.toJC.sC.loc 1 (mm 1) _ rfl)) (je_op opD_shl (je_int) (je_op opD_div (je_op opD_add (je_bits (jv d.toJC 0 (mm 0) rfl)) (je_int)) (je_int)))) (jb_cons (js_while d (jt_cmp opD_gt (je_op opD_mul (jv d.toJC 1 (mm 1) rfl) (jv d.toJC 1 (mm 1) rfl)) (jv d.toJC 0 (mm 0) rfl) rfl) (jb_one (js_set d.toJC 1 rfl (.inl (d.toJC.sC.loc 1 (mm 1) _ rfl)) (je_op opD_div (je_op opD_add (jv d.toJC 1 (mm 1) rfl) (je_op opD_div (jv d.toJC 0 (mm 0) rfl) (jv d.toJC 1 (mm 1) rfl))) (je_int))))) (jb_one (js_ret (jv d.toJC 1 (mm 1) rfl)))))
theorem Tj_l_rooted (T : Tp fa fn bx K mg) : JF P w K mg base "_law_rooted" 1 [] (fun ds _ => ds) 1 m_l_rooted := by
  obtain ⟨fd, F⟩ := T.sy.def_ 33 (d := d_l_rooted) rfl
  exact jf_mkN F fs_l_rooted sc_l_rooted (T.glo 47) ⟨rfl, by decide, by decide⟩ (fun _ _ _ _ _ _ us hl => match us, hl with | [_], _ => rfl) (fun X W d => body_l_rooted T d)
theorem body_l_dot (T : Tp fa fn bx K mg) {X : Cx} {W : WX} (d : JD P w K mg base nm_l_dot (defScope (top 46)) vw_l_dot 0 X W) : JB X W (defBody (top 46)) t_l_dot :=
  jb_one (js_ret (je_op opD_add (je_op opD_mul (je_ix (jv d.toJC 0 (mm 0) rfl) (je_int)) (je_ix (jv d.toJC 1 (mm 1) rfl) (je_int))) (je_op opD_mul (je_ix (jv d.toJC 0 (mm 0) rfl) (je_int)) (je_ix (jv d.toJC 1 (mm 1) rfl) (je_int)))))
theorem Tj_l_dot (T : Tp fa fn bx K mg) : JF P w K mg base "_law_dot" 2 [] (fun ds _ => ds) 1 m_l_dot := by
  obtain ⟨fd, F⟩ := T.sy.def_ 34 (d := d_l_dot) rfl
  exact jf_mkN F fs_l_dot sc_l_dot (T.glo 46) ⟨rfl, by decide, by decide⟩ (fun _ _ _ _ _ _ us hl => match us, hl with | [_, _], _ => rfl) (fun X W d => body_l_dot T d)
theorem body_l_minus (T : Tp fa fn bx K mg) {X : Cx} {W : WX} (d : JD P w K mg base nm_l_minus (defScope (top 48)) vw_l_minus 0 X W) : JB X W (defBody (top 48)) t_l_minus :=
  jb_one (js_ret (je_tup (ja_cons (je_op opD_sub (je_ix (jv d.toJC 0 (mm 0) rfl) (je_int)) (je_ix (jv d.toJC 1 (mm 1) rfl) (je_int))) (ja_cons (je_op opD_sub (je_ix (jv d.toJC 0 (mm 0) rfl) (je_int)) (je_ix (jv d.toJC 1 (mm 1) rfl) (je_int))) (ja_nil)))))
theorem Tj_l_minus (T : Tp fa fn bx K mg) : JF P w K mg base "_law_minus" 2 [] (fun ds _ => ds) 1 m_l_minus := by
  obtain ⟨fd, F⟩ := T.sy.def_ 35 (d := d_l_minus) rfl
  exact jf_mkN F fs_l_minus sc_l_minus (T.glo 45) ⟨rfl, by decide, by decide⟩ (fun _ _ _ _ _ _ us hl => match us, hl with | [_, _], _ => rfl) (fun X W d => body_l_minus T d)
theorem body_l_steps (T : Tp fa fn bx K mg) {X : Cx} {W : WX} (d : JD P w K mg base nm_l_steps (defScope (top 45)) vw_l_steps 0 X W) : JB X W (defBody (top 45)) t_l_steps :=
  jb_cons (js_asg (jv d.toJC 1 (mm 1) rfl) (jg_tup d.toJC.calm (jgs_cons (jg_tup d.toJC.calm (jgs_cons (jg_name d.toJC 2 rfl (.inl (d.toJC.sC.loc 2 (mm 2) _ rfl))) (jgs_cons (jg_name d.toJC 3 rfl (.inl (d.toJC.sC.loc 3 (mm 3) _ rfl))) (jgs_nil)))) (jgs_cons (jg_tup d.toJC.calm (jgs_cons (jg_name d.toJC 4 rfl (.inl (d.toJC.sC.loc 4 (mm 4) _ rfl))) (jgs_cons (jg_name d.toJC 5 rfl (.inl (d.toJC.sC.loc 5 (mm 5) _ rfl))) (jgs_nil)))) (jgs_nil))))) (jb_one (js_ret (je_tup (ja_cons (je_op opD_sub (je_op opD_mul (jv d.toJC 2 (mm 2) rfl) (jv d.toJC 5 (mm 5) rfl)) (je_op opD_mul (je_op opD_mul (je_ix (jv d.toJC 0 (mm 0) rfl) (je_int)) (jv d.toJC 3 (mm 3) rfl)) (jv d.toJC 5 (mm 5) rfl))) (ja_cons (je_op opD_sub (je_op opD_mul (jv d.toJC 4 (mm 4) rfl) (jv d.toJC 3 (mm 3) rfl)) (je_op opD_mul (je_op opD_mul (je_ix (jv d.toJC 0 (mm 0) rfl) (je_int)) (jv d.toJC 3 (mm 3) rfl)) (jv d.toJC 5 (mm 5) rfl))) (ja_cons (je_op opD_mul (jv d.toJC 3 (mm 3) rfl) (jv d.toJC 5 (mm 5) rfl)) (ja_nil)))))))
theorem Tj_l_steps (T : Tp fa fn bx K mg) : JF P w K mg base "_law_steps" 2 [] (fun ds _ => ds) 1 m_l_steps := by
  obtain ⟨fd, F⟩ := T.sy.def_ 36 (d := d_l_steps) rfl
  exact jf_mkN F fs_l_steps sc_l_steps (T.glo 53) ⟨rfl, by decide, by decide⟩ (fun _ _ _ _ _ _ us hl => match us, hl with | [_, _], _ => rfl) (fun X W d => body_l_steps T d)
theorem body_l_cross (T : Tp fa fn bx K mg) {X : Cx} {W : WX} (d : JD P w K mg base nm_l_cross (defScope (top 47)) vw_l_cross 0 X W) : JB X W (defBody (top 47)) t_l_cross :=
  jb_one (js_ret (je_op opD_sub (je_op opD_mul (je_ix (jv d.toJC 0 (mm 0) rfl) (je_int)) (je_ix (jv d.toJC 1 (mm 1) rfl) (je_int))) (je_op opD_mul (je_ix (jv d.toJC 0 (mm 0) rfl) (je_int)) (je_ix (jv d.toJC 1 (mm 1) rfl) (je_int)))))
theorem Tj_l_cross (T : Tp fa fn bx K mg) : JF P w K mg base "_law_cross" 2 [] (fun ds _ => ds) 1 m_l_cross := by
  obtain ⟨fd, F⟩ := T.sy.def_ 37 (d := d_l_cross) rfl
  exact jf_mkN F fs_l_cross sc_l_cross (T.glo 55) ⟨rfl, by decide, by decide⟩ (fun _ _ _ _ _ _ us hl => match us, hl with | [_, _], _ => rfl) (fun X W d => body_l_cross T d)
theorem body_l_by_cord (T : Tp fa fn bx K mg) {X : Cx} {W : WX} (d : JD P w K mg base nm_l_by_cord (defScope (top 49)) vw_l_by_cord 1 X W) : JB X W (defBody (top 49)) t_l_by_cord :=
  jb_cons (js_asg (je_call d.toJC (Tj_l_steps T) (by decide) (mm 0) (ja_cons (jv d.toJC 0 (mm 0) rfl) (ja_cons (jv d.toJC 2 (mm 2) rfl) (ja_nil)))) (jg_tup d.toJC.calm (jgs_cons (jg_name d.toJC 3 rfl (.inl (d.toJC.sC.loc 3 (mm 3) _ rfl))) (jgs_cons (jg_name d.toJC 4 rfl (.inl (d.toJC.sC.loc 4 (mm 4) _ rfl))) (jgs_cons (jg_name d.toJC 5 rfl (.inl (d.toJC.sC.loc 5 (mm 5) _ rfl))) (jgs_nil)))))) (jb_cons (js_set d.toJC 6 rfl (.inl (d.toJC.sC.loc 6 (mm 6) _ rfl)) (je_call d.toJC (Tj_l_minus T) (by decide) (mm 1) (ja_cons (jv d.toJC 1 (mm 1) rfl) (ja_cons (jv d.toJC 0 (mm 0) rfl) (ja_nil))))) (jb_cons (js_par d.toJC 7 8 rfl rfl (by decide) (d.toJC.sC.loc 7 (mm 7) _ rfl) (d.toJC.sC.loc 8 (mm 8) _ rfl) (ja_cons (je_call d.toJC (Tj_l_dot T) (by decide) (mm 2) (ja_cons (jv d.toJC 6 (mm 6) rfl) (ja_cons (jv d.toJC 6 (mm 6) rfl) (ja_nil)))) (ja_cons (je_call d.toJC (Tj_l_dot T) (by decide) (mm 2) (ja_cons (je_tup (ja_cons (jv d.toJC 3 (mm 3) rfl) (ja_cons (jv d.toJC 4 (mm 4) rfl) (ja_nil)))) (ja_cons (jv d.toJC 6 (mm 6) rfl) (ja_nil)))) (ja_nil))) (sw2 d.toJC.kd (by rw [d.toJC.ss]; exact (d.toJC.sC.loc 7 (mm 7) _ rfl)) (by rw [d.toJC.ss]; exact (d.toJC.sC.loc 8 (mm 8) _ rfl)) rfl (by decide +kernel) rfl rfl rfl)) (jb_cons (js_if (jt_cmp opD_le (jv d.toJC 8 (mm 8) rfl) (je_int) rfl) (jb_one (js_ret (je_call d.toJC (Tj_l_low T) (by decide) (mm 3) (ja_cons (je_op opD_add (je_op opD_mul (jv d.toJC 3 (mm 3) rfl) (jv d.toJC 3 (mm 3) rfl)) (je_op opD_mul (jv d.toJC 4 (mm 4) rfl) (jv d.toJC 4 (mm 4) rfl))) (ja_cons (je_op opD_mul (jv d.toJC 5 (mm 5) rfl) (jv d.toJC 5 (mm 5) rfl)) (ja_nil)))))) (jb_nil)) (jb_cons (js_if (jt_cmp opD_ge (jv d.toJC 8 (mm 8) rfl) (je_op opD_mul (jv d.toJC 7 (mm 7) rfl) (jv d.toJC 5 (mm 5) rfl)) rfl) (jb_cons (js_asg (je_call d.toJC (Tj_l_steps T) (by decide) (mm 0) (ja_cons (jv d.toJC 1 (mm 1) rfl) (ja_cons (jv d.toJC 2 (mm 2) rfl) (ja_nil)))) (jg_tup d.toJC.calm (jgs_cons (jg_name d.toJC 3 rfl (.inl (d.toJC.sC.loc 3 (mm 3) _ rfl))) (jgs_cons (jg_name d.toJC 4 rfl (.inl (d.toJC.sC.loc 4 (mm 4) _ rfl))) (jgs_cons (jg_name d.toJC 5 rfl (.inl (d.toJC.sC.loc 5 (mm 5) _ rfl))) (jgs_nil)))))) (jb_one (js_ret (je_call d.toJC (Tj_l_low T) (by decide) (mm 3) (ja_cons (je_op opD_add (je_op opD_mul (jv d.toJC 3 (mm 3) rfl) (jv d.toJC 3 (mm 3) rfl)) (je_op opD_mul (jv d.toJC 4 (mm 4) rfl) (jv d.toJC 4 (mm 4) rfl))) (ja_cons (je_op opD_mul (jv d.toJC 5 (mm 5) rfl) (jv d.toJC 5 (mm 5) rfl)) (ja_nil))))))) (jb_nil)) (jb_one (js_ret (je_call d.toJC (Tj_l_low T) (by decide) (mm 3) (ja_cons (je_op opD_pow (je_call d.toJC (Tj_l_cross T) (by decide) (mm 4) (ja_cons (je_tup (ja_cons (jv d.toJC 3 (mm 3) rfl) (ja_cons (jv d.toJC 4 (mm 4) rfl) (ja_nil)))) (ja_cons (jv d.toJC 6 (mm 6) rfl) (ja_nil)))) (je_int)) (ja_cons (je_op opD_mul (je_op opD_mul (jv d.toJC 7 (mm 7) rfl) (jv d.toJC 5 (mm 5) rfl)) (jv d.toJC 5 (mm 5) rfl)) (ja_nil))))))))))
theorem Tj_l_by_cord (T : Tp fa fn bx K mg) : JF P w K mg base "_law_by_cord" 3 [] (fun ds _ => ds) 2 m_l_by_cord := by
  obtain ⟨fd, F⟩ := T.sy.def_ 38 (d := d_l_by_cord) rfl
  exact jf_mkN F fs_l_by_cord sc_l_by_cord (T.glo 54) ⟨rfl, by decide, by decide⟩ (fun _ _ _ _ _ _ us hl => match us, hl with | [_, _, _], _ => rfl) (fun X W d => body_l_by_cord T d)
theorem body_l_is_on (T : Tp fa fn bx K mg) {X : Cx} {W : WX} (d : JD P w K mg base nm_l_is_on (defScope (top 50)) vw_l_is_on 2 X W) : JB X W (defBody (top 50)) t_l_is_on :=
  jb_cons (js_if (jt_cmp (opD_eq d.toJC.room) (je_ix (jv d.toJC 0 (mm 0) rfl) (je_int)) (je_str) rfl) (jb_one (js_ret (je_cmp (opD_eq d.toJC.room) (je_sl (je_call d.toJC (Tj_l_steps T) (by decide) (mm 0) (ja_cons (je_ix (jv d.toJC 0 (mm 0) rfl) (je_int)) (ja_cons (jv d.toJC 1 (mm 1) rfl) (ja_nil)))) (jo_none) (jo_some (je_int))) (je_tup (ja_cons (je_int) (ja_cons (je_int) (ja_nil)))) rfl))) (jb_nil)) (jb_cons (js_if (jt_cmp (opD_eq d.toJC.room) (je_ix (jv d.toJC 0 (mm 0) rfl) (je_int)) (je_str) rfl) (jb_one (js_ret (je_cmp (opD_eq d.toJC.room) (je_ix (je_call d.toJC (Tj_l_by_cord T) (by decide) (mm 1) (ja_cons (je_ix (jv d.toJC 0 (mm 0) rfl) (je_int)) (ja_cons (je_ix (jv d.toJC 0 (mm 0) rfl) (je_int)) (ja_cons (jv d.toJC 1 (mm 1) rfl) (ja_nil))))) (je_int)) (je_int) rfl))) (jb_nil)) (jb_cons (js_asg (je_call d.toJC (Tj_l_steps T) (by decide) (mm 0) (ja_cons (je_ix (jv d.toJC 0 (mm 0) rfl) (je_int)) (ja_cons (jv d.toJC 1 (mm 1) rfl) (ja_nil)))) (jg_tup d.toJC.calm (jgs_cons (jg_name d.toJC 2 rfl (.inl (d.toJC.sC.loc 2 (mm 2) _ rfl))) (jgs_cons (jg_name d.toJC 3 rfl (.inl (d.toJC.sC.loc 3 (mm 3) _ rfl))) (jgs_cons (jg_name d.toJC 4 rfl (.inl (d.toJC.sC.loc 4 (mm 4) _ rfl))) (jgs_nil)))))) (jb_cons (js_par d.toJC 5 6 rfl rfl (by decide) (d.toJC.sC.loc 5 (mm 5) _ rfl) (d.toJC.sC.loc 6 (mm 6) _ rfl) (ja_cons (je_call d.toJC (Tj_l_minus T) (by decide) (mm 2) (ja_cons (je_ix (jv d.toJC 0 (mm 0) rfl) (je_int)) (ja_cons (je_ix (jv d.toJC 0 (mm 0) rfl) (je_int)) (ja_nil)))) (ja_cons (je_call d.toJC (Tj_l_minus T) (by decide) (mm 2) (ja_cons (je_ix (jv d.toJC 0 (mm 0) rfl) (je_int)) (ja_cons (je_ix (jv d.toJC 0 (mm 0) rfl) (je_int)) (ja_nil)))) (ja_nil))) (sw2 d.toJC.kd (by rw [d.toJC.ss]; exact (d.toJC.sC.loc 5 (mm 5) _ rfl)) (by rw [d.toJC.ss]; exact (d.toJC.sC.loc 6 (mm 6) _ rfl)) rfl (by decide +kernel) rfl rfl rfl)) (jb_cons (js_set d.toJC 7 rfl (.inl (d.toJC.sC.loc 7 (mm 7) _ rfl)) (je_call d.toJC (Tj_l_cross T) (by decide) (mm 3) (ja_cons (je_call d.toJC (Tj_l_minus T) (by decide) (mm 2) (ja_cons (jv d.toJC 6 (mm 6) rfl) (ja_cons (jv d.toJC 5 (mm 5) rfl) (ja_nil)))) (ja_cons (je_tup (ja_cons (je_op opD_sub (jv d.toJC 2 (mm 2) rfl) (je_op opD_mul (je_ix (jv d.toJC 5 (mm 5) rfl) (je_int)) (jv d.toJC 4 (mm 4) rfl))) (ja_cons (je_op opD_sub (jv d.toJC 3 (mm 3) rfl) (je_op opD_mul (je_ix (jv d.toJC 5 (mm 5) rfl) (je_int)) (jv d.toJC 4 (mm 4) rfl))) (ja_nil)))) (ja_nil))))) (jb_one (js_ret (je_and (je_cmp opD_le (je_op opD_add (je_op opD_mul (jv d.toJC 2 (mm 2) rfl) (jv d.toJC 2 (mm 2) rfl)) (je_op opD_mul (jv d.toJC 3 (mm 3) rfl) (jv d.toJC 3 (mm 3) rfl))) (je_op opD_mul (je_op opD_mul (je_call d.toJC (Tj_l_dot T) (by decide) (mm 4) (ja_cons (jv d.toJC 5 (mm 5) rfl) (ja_cons (jv d.toJC 5 (mm 5) rfl) (ja_nil)))) (jv d.toJC 4 (mm 4) rfl)) (jv d.toJC 4 (mm 4) rfl)) rfl) (je_one (je_cmp opD_le (jv d.toJC 7 (mm 7) rfl) (je_int) rfl)))))))))
theorem Tj_l_is_on (T : Tp fa fn bx K mg) : JF P w K mg base "_law_is_on" 2 [] (fun ds _ => ds) 3 m_l_is_on := by
  obtain ⟨fd, F⟩ := T.sy.def_ 39 (d := d_l_is_on) rfl
  exact jf_mkN F fs_l_is_on sc_l_is_on (T.glo 48) ⟨rfl, by decide, by decide⟩ (fun _ _ _ _ _ _ us hl => match us, hl with | [_, _], _ => rfl) (fun X W d => body_l_is_on T d)
theorem body_l_product (T : Tp fa fn bx K mg) {X : Cx} {W : WX} (d : JD P w K mg base nm_l_product (defScope (top 52)) vw_l_product 1 X W) : JB X W (defBody (top 52)) t_l_product :=
  jb_one (js_ret (je_call d.toJC (Tj_l_low T) (by decide) (mm 0) (ja_cons (je_op opD_mul (je_ix (jv d.toJC 0 (mm 0) rfl) (je_int)) (je_ix (jv d.toJC 1 (mm 1) rfl) (je_int))) (ja_cons (je_op opD_mul (je_ix (jv d.toJC 0 (mm 0) rfl) (je_int)) (je_ix (jv d.toJC 1 (mm 1) rfl) (je_int))) (ja_nil)))))
theorem Tj_l_product (T : Tp fa fn bx K mg) : JF P w K mg base "_law_product" 2 [] (fun ds _ => ds) 2 m_l_product := by
  obtain ⟨fd, F⟩ := T.sy.def_ 40 (d := d_l_product) rfl
  exact jf_mkN F fs_l_product sc_l_product (T.glo 58) ⟨rfl, by decide, by decide⟩ (fun _ _ _ _ _ _ us hl => match us, hl with | [_, _], _ => rfl) (fun X W d => body_l_product T d)
theorem body_l_contrary (T : Tp fa fn bx K mg) {X : Cx} {W : WX} (d : JD P w K mg base nm_l_contrary (defScope (top 53)) vw_l_contrary 0 X W) : JB X W (defBody (top 53)) t_l_contrary :=
  jb_one (js_ret (je_tup (ja_cons (je_op opD_sub (je_int) (je_ix (jv d.toJC 0 (mm 0) rfl) (je_int))) (ja_cons (je_ix (jv d.toJC 0 (mm 0) rfl) (je_int)) (ja_nil)))))
theorem Tj_l_contrary (T : Tp fa fn bx K mg) : JF P w K mg base "_law_contrary" 1 [] (fun ds _ => ds) 1 m_l_contrary := by
  obtain ⟨fd, F⟩ := T.sy.def_ 41 (d := d_l_contrary) rfl
  exact jf_mkN F fs_l_contrary sc_l_contrary (T.glo 56) ⟨rfl, by decide, by decide⟩ (fun _ _ _ _ _ _ us hl => match us, hl with | [_], _ => rfl) (fun X W d => body_l_contrary T d)
theorem body_l_side (T : Tp fa fn bx K mg) {X : Cx} {W : WX} (d : JD P w K mg base nm_l_side (defScope (top 54)) vw_l_side 2 X W) : JB X W (defBody (top 54)) t_l_side :=
  jb_cons (js_set d.toJC 3 rfl (.inl (d.toJC.sC.loc 3 (mm 3) _ rfl)) (je_op opD_sub (je_callTy d.toJC cd_int (mm 0) (T.free 9) (by decide +kernel) (ja_cons (je_cmp opD_gt (je_ix (jv d.toJC 0 (mm 0) rfl) (je_int)) (je_int) rfl) (ja_nil))) (je_callTy d.toJC cd_int (mm 0) (T.free 9) (by decide +kernel) (ja_cons (je_cmp opD_lt (je_ix (jv d.toJC 0 (mm 0) rfl) (je_int)) (je_int) rfl) (ja_nil))))) (jb_cons (js_set d.toJC 4 rfl (.inl (d.toJC.sC.loc 4 (mm 4) _ rfl)) (je_op opD_sub (je_callTy d.toJC cd_int (mm 0) (T.free 9) (by decide +kernel) (ja_cons (je_cmp opD_gt (je_ix (jv d.toJC 1 (mm 1) rfl) (je_int)) (je_int) rfl) (ja_nil))) (je_callTy d.toJC cd_int (mm 0) (T.free 9) (by decide +kernel) (ja_cons (je_cmp opD_lt (je_ix (jv d.toJC 1 (mm 1) rfl) (je_int)) (je_int) rfl) (ja_nil))))) (jb_cons (js_if (jt_w (jw_or (jt_cmp (opD_eq d.toJC.room) (je_ix (jv d.toJC 2 (mm 2) rfl) (je_int)) (je_int) rfl) (jw_or (jt_cmp (opD_eq d.toJC.room) (jv d.toJC 4 (mm 4) rfl) (je_int) rfl) (jw_or1 (jt_cmp (opD_eq d.toJC.room) (jv d.toJC 3 (mm 3) rfl) (jv d.toJC 4 (mm 4) rfl) rfl))))) (jb_one (js_ret (jv d.toJC 3 (mm 3) rfl))) (jb_nil)) (jb_cons (js_if (jt_cmp (opD_eq d.toJC.room) (jv d.toJC 3 (mm 3) rfl) (je_int) rfl) (jb_one (js_ret (jv d.toJC 4 (mm 4) rfl))) (jb_nil)) (jb_cons (js_set d.toJC 5 rfl (.inl (d.toJC.sC.loc 5 (mm 5) _ rfl)) (je_call d.toJC (Tj_l_sum T) (by decide) (mm 1) (ja_cons (je_call d.toJC (Tj_l_product T) (by decide) (mm 2) (ja_cons (jv d.toJC 0 (mm 0) rfl) (ja_cons (jv d.toJC 0 (mm 0) rfl) (ja_nil)))) (ja_cons (je_call d.toJC (Tj_l_contrary T) (by decide) (mm 3) (ja_cons (je_call d.toJC (Tj_l_product T) (by decide) (mm 2) (ja_cons (je_call d.toJC (Tj_l_product T) (by decide) (mm 2) (ja_cons (jv d.toJC 1 (mm 1) rfl) (ja_cons (jv d.toJC 1 (mm 1) rfl) (ja_nil)))) (ja_cons (jv d.toJC 2 (mm 2) rfl) (ja_nil)))) (ja_nil))) (ja_nil))))) (jb_one (js_ret (je_op opD_mul (jv d.toJC 3 (mm 3) rfl) (je_op opD_sub (je_callTy d.toJC cd_int (mm 0) (T.free 9) (by decide +kernel) (ja_cons (je_cmp opD_gt (je_ix (jv d.toJC 5 (mm 5) rfl) (je_int)) (je_int) rfl) (ja_nil))) (je_callTy d.toJC cd_int (mm 0) (T.free 9) (by decide +kernel) (ja_cons (je_cmp opD_lt (je_ix (jv d.toJC 5 (mm 5) rfl) (je_int)) (je_int) rfl) (ja_nil)))))))))))
theorem Tj_l_side (T : Tp fa fn bx K mg) : JF P w K mg base "_law_side" 3 [] (fun ds _ => ds) 3 m_l_side := by
  obtain ⟨fd, F⟩ := T.sy.def_ 42 (d := d_l_side) rfl
  exact jf_mkN F fs_l_side sc_l_side (T.glo 57) ⟨rfl, by decide, by decide⟩ (fun _ _ _ _ _ _ us hl => match us, hl with | [_, _, _], _ => rfl) (fun X W d => body_l_side T d)
theorem body_l_compare (T : Tp fa fn bx K mg) {X : Cx} {W : WX} (d : JD P w K mg base nm_l_compare (defScope (top 55)) vw_l_compare 3 X W) : JB X W (defBody (top 55)) t_l_compare :=
  jb_cons (js_set d.toJC 2 rfl (.inl (d.toJC.sC.loc 2 (mm 2) _ rfl)) (je_call d.toJC (Tj_l_sum T) (by decide) (mm 0) (ja_cons (je_ix (jv d.toJC 0 (mm 0) rfl) (je_int)) (ja_cons (je_call d.toJC (Tj_l_contrary T) (by decide) (mm 1) (ja_cons (je_ix (jv d.toJC 1 (mm 1) rfl) (je_int)) (ja_nil))) (ja_nil))))) (jb_cons (js_set d.toJC 3 rfl (.inl (d.toJC.sC.loc 3 (mm 3) _ rfl)) (je_call d.toJC (Tj_l_side T) (by decide) (mm 2) (ja_cons (jv d.toJC 2 (mm 2) rfl) (ja_cons (je_tup (ja_cons (je_ix (jv d.toJC 0 (mm 0) rfl) (je_int)) (ja_cons (je_int) (ja_nil)))) (ja_cons (je_ix (jv d.toJC 0 (mm 0) rfl) (je_int)) (ja_nil)))))) (jb_cons (js_if (jt_cmp (opD_ne d.toJC.room) (jv d.toJC 3 (mm 3) rfl) (je_ix (jv d.toJC 1 (mm 1) rfl) (je_int)) rfl) (jb_one (js_ret (je_ifExp (jt_cmp opD_gt (jv d.toJC 3 (mm 3) rfl) (je_ix (jv d.toJC 1 (mm 1) rfl) (je_int)) rfl) (je_int) (je_neg (je_int))))) (jb_nil)) (jb_cons (js_if (jt_cmp (opD_eq d.toJC.room) (jv d.toJC 3 (mm 3) rfl) (je_int) rfl) (jb_one (js_ret (je_int))) (jb_nil)) (jb_cons (js_set d.toJC 4 rfl (.inl (d.toJC.sC.loc 4 (mm 4) _ rfl)) (je_call d.toJC (Tj_l_sum T) (by decide) (mm 0) (ja_cons (je_call d.toJC (Tj_l_sum T) (by decide) (mm 0) (ja_cons (je_call d.toJC (Tj_l_product T) (by decide) (mm 3) (ja_cons (jv d.toJC 2 (mm 2) rfl) (ja_cons (jv d.toJC 2 (mm 2) rfl) (ja_nil)))) (ja_cons (je_ix (jv d.toJC 0 (mm 0) rfl) (je_int)) (ja_nil)))) (ja_cons (je_call d.toJC (Tj_l_contrary T) (by decide) (mm 1) (ja_cons (je_ix (jv d.toJC 1 (mm 1) rfl) (je_int)) (ja_nil))) (ja_nil))))) (jb_one (js_ret (je_op opD_mul (jv d.toJC 3 (mm 3) rfl) (je_call d.toJC (Tj_l_side T) (by decide) (mm 2) (ja_cons (jv d.toJC 4 (mm 4) rfl) (ja_cons (je_call d.toJC (Tj_l_product T) (by decide) (mm 3) (ja_cons (jv d.toJC 2 (mm 2) rfl) (ja_cons (je_tup (ja_cons (je_op opD_mul (je_int) (je_ix (jv d.toJC 0 (mm 0) rfl) (je_int))) (ja_cons (je_int) (ja_nil)))) (ja_nil)))) (ja_cons (je_ix (jv d.toJC 0 (mm 0) rfl) (je_int)) (ja_nil))))))))))))
theorem Tj_l_compare (T : Tp fa fn bx K mg) : JF P w K mg base "_law_compare" 2 [] (fun ds _ => ds) 4 m_l_compare := by
  obtain ⟨fd, F⟩ := T.sy.def_ 43 (d := d_l_compare) rfl
  exact jf_mkN F fs_l_compare sc_l_compare (T.glo 51) ⟨rfl, by decide, by decide⟩ (fun _ _ _ _ _ _ us hl => match us, hl with | [_, _], _ => rfl) (fun X W d => body_l_compare T d)
theorem body_l_root (T : Tp fa fn bx K mg) {X : Cx} {W : WX} (d : JD P w K mg base nm_l_root (defScope (top 44)) vw_l_root 1 X W) : JB X W (defBody (top 44)) t_l_root :=
  jb_cons (js_par d.toJC 2 3 rfl rfl (by decide) (d.toJC.sC.loc 2 (mm 2) _ rfl) (d.toJC.sC.loc 3 (mm 3) _ rfl) (ja_cons (je_call d.toJC (Tj_l_rooted T) (by decide) (mm 0) (ja_cons (je_ix (jv d.toJC 1 (mm 1) rfl) (je_int)) (ja_nil))) (ja_cons (je_call d.toJC (Tj_l_rooted T) (by decide) (mm 0) (ja_cons (je_ix (jv d.toJC 1 (mm 1) rfl) (je_int)) (ja_nil))) (ja_nil))) (sw2 d.toJC.kd (by rw [d.toJC.ss]; exact (d.toJC.sC.loc 2 (mm 2) _ rfl)) (by rw [d.toJC.ss]; exact (d.toJC.sC.loc 3 (mm 3) _ rfl)) rfl (by decide +kernel) rfl rfl rfl)) (jb_cons (js_if (jt_w (jw_and (jt_cmp (opD_eq d.toJC.room) (je_op opD_mul (jv d.toJC 2 (mm 2) rfl) (jv d.toJC 2 (mm 2) rfl)) (je_ix (jv d.toJC 1 (mm 1) rfl) (je_int)) rfl) (jw_and1 (jt_cmp (opD_eq d.toJC.room) (je_op opD_mul (jv d.toJC 3 (mm 3) rfl) (jv d.toJC 3 (mm 3) rfl)) (je_ix (jv d.toJC 1 (mm 1) rfl) (je_int)) rfl)))) (jb_one (js_ret (je_tup (ja_cons (je_call d.toJC (Tj_l_low T) (by decide) (mm 1) (ja_cons (je_op opD_add (je_op opD_mul (jv d.toJC 0 (mm 0) rfl) (jv d.toJC 3 (mm 3) rfl)) (jv d.toJC 2 (mm 2) rfl)) (ja_cons (jv d.toJC 3 (mm 3) rfl) (ja_nil)))) (ja_cons (je_int) (ja_cons (je_tup (ja_cons (je_int) (ja_cons (je_int) (ja_nil)))) (ja_nil))))))) (jb_nil)) (jb_one (js_ret (je_tup (ja_cons (je_tup (ja_cons (jv d.toJC 0 (mm 0) rfl) (ja_cons (je_int) (ja_nil)))) (ja_cons (je_int) (ja_cons (jv d.toJC 1 (mm 1) rfl) (ja_nil))))))))
theorem Tj_l_root (T : Tp fa fn bx K mg) : JF P w K mg base "_law_root" 2 [] (fun ds _ => ds) 2 m_l_root := by
  obtain ⟨fd, F⟩ := T.sy.def_ 44 (d := d_l_root) rfl
  exact jf_mkN F fs_l_root sc_l_root (T.glo 60) ⟨rfl, by decide, by decide⟩ (fun _ _ _ _ _ _ us hl => match us, hl with | [_, _], _ => rfl) (fun X W d => body_l_root T d)
theorem body_l_distance (T : Tp fa fn bx K mg) {X : Cx} {W : WX} (d : JD P w K mg base nm_l_distance (defScope (top 51)) vw_l_distance 3 X W) : JB X W (defBody (top 51)) t_l_distance :=
  jb_cons (js_if (jt_tru (je_call d.toJC (Tj_l_is_on T) (by decide) (mm 0) (ja_cons (jv d.toJC 0 (mm 0) rfl) (ja_cons (jv d.toJC 1 (mm 1) rfl) (ja_nil))))) (jb_one (js_ret (je_tup (ja_cons (je_tup (ja_cons (je_int) (ja_cons (je_int) (ja_nil)))) (ja_cons (je_int) (ja_cons (je_tup (ja_cons (je_int) (ja_cons (je_int) (ja_nil)))) (ja_nil))))))) (jb_nil)) (jb_cons (js_if (jt_cmp (opD_eq d.toJC.room) (je_ix (jv d.toJC 0 (mm 0) rfl) (je_int)) (je_str) rfl) (jb_cons (js_asg (je_call d.toJC (Tj_l_steps T) (by decide) (mm 1) (ja_cons (je_ix (jv d.toJC 0 (mm 0) rfl) (je_int)) (ja_cons (jv d.toJC 1 (mm 1) rfl) (ja_nil)))) (jg_tup d.toJC.calm (jgs_cons (jg_name d.toJC 2 rfl (.inl (d.toJC.sC.loc 2 (mm 2) _ rfl))) (jgs_cons (jg_name d.toJC 3 rfl (.inl (d.toJC.sC.loc 3 (mm 3) _ rfl))) (jgs_cons (jg_name d.toJC 4 rfl (.inl (d.toJC.sC.loc 4 (mm 4) _ rfl))) (jgs_nil)))))) (jb_one (js_ret (je_call d.toJC (Tj_l_root T) (by decide) (mm 2) (ja_cons (je_int) (ja_cons (je_call d.toJC (Tj_l_low T) (by decide) (mm 3) (ja_cons (je_op opD_add (je_op opD_mul (jv d.toJC 2 (mm 2) rfl) (jv d.toJC 2 (mm 2) rfl)) (je_op opD_mul (jv d.toJC 3 (mm 3) rfl) (jv d.toJC 3 (mm 3) rfl))) (ja_cons (je_op opD_mul (jv d.toJC 4 (mm 4) rfl) (jv d.toJC 4 (mm 4) rfl)) (ja_nil)))) (ja_nil))))))) (jb_nil)) (jb_cons (js_if (jt_cmp (opD_eq d.toJC.room) (je_ix (jv d.toJC 0 (mm 0) rfl) (je_int)) (je_str) rfl) (jb_one (js_ret (je_call d.toJC (Tj_l_root T) (by decide) (mm 2) (ja_cons (je_int) (ja_cons (je_call d.toJC (Tj_l_by_cord T) (by decide) (mm 4) (ja_cons (je_ix (jv d.toJC 0 (mm 0) rfl) (je_int)) (ja_cons (je_ix (jv d.toJC 0 (mm 0) rfl) (je_int)) (ja_cons (jv d.toJC 1 (mm 1) rfl) (ja_nil))))) (ja_nil)))))) (jb_nil)) (jb_cons (js_asg (je_call d.toJC (Tj_l_steps T) (by decide) (mm 1) (ja_cons (je_ix (jv d.toJC 0 (mm 0) rfl) (je_int)) (ja_cons (jv d.toJC 1 (mm 1) rfl) (ja_nil)))) (jg_tup d.toJC.calm (jgs_cons (jg_name d.toJC 2 rfl (.inl (d.toJC.sC.loc 2 (mm 2) _ rfl))) (jgs_cons (jg_name d.toJC 3 rfl (.inl (d.toJC.sC.loc 3 (mm 3) _ rfl))) (jgs_cons (jg_name d.toJC 4 rfl (.inl (d.toJC.sC.loc 4 (mm 4) _ rfl))) (jgs_nil)))))) (jb_cons (js_par d.toJC 5 6 rfl rfl (by decide) (d.toJC.sC.loc 5 (mm 5) _ rfl) (d.toJC.sC.loc 6 (mm 6) _ rfl) (ja_cons (je_call d.toJC (Tj_l_minus T) (by decide) (mm 5) (ja_cons (je_ix (jv d.toJC 0 (mm 0) rfl) (je_int)) (ja_cons (je_ix (jv d.toJC 0 (mm 0) rfl) (je_int)) (ja_nil)))) (ja_cons (je_call d.toJC (Tj_l_minus T) (by decide) (mm 5) (ja_cons (je_ix (jv d.toJC 0 (mm 0) rfl) (je_int)) (ja_cons (je_ix (jv d.toJC 0 (mm 0) rfl) (je_int)) (ja_nil)))) (ja_nil))) (sw2 d.toJC.kd (by rw [d.toJC.ss]; exact (d.toJC.sC.loc 5 (mm 5) _ rfl)) (by rw [d.toJC.ss]; exact (d.toJC.sC.loc 6 (mm 6) _ rfl)) rfl (by decide +kernel) rfl rfl rfl)) (jb_cons (js_if (jt_w (jw_and (jt_cmp opD_ge (je_call d.toJC (Tj_l_cross T) (by decide) (mm 6) (ja_cons (jv d.toJC 5 (mm 5) rfl) (ja_cons (je_tup (ja_cons (jv d.toJC 2 (mm 2) rfl) (ja_cons (jv d.toJC 3 (mm 3) rfl) (ja_nil)))) (ja_nil)))) (je_int) rfl) (jw_and (jt_cmp opD_ge (je_call d.toJC (Tj_l_cross T) (by decide) (mm 6) (ja_cons (je_tup (ja_cons (jv d.toJC 2 (mm 2) rfl) (ja_cons (jv d.toJC 3 (mm 3) rfl) (ja_nil)))) (ja_cons (jv d.toJC 6 (mm 6) rfl) (ja_nil)))) (je_int) rfl) (jw_and1 (jt_cmp opD_gt (je_op opD_add (je_op opD_mul (jv d.toJC 2 (mm 2) rfl) (jv d.toJC 2 (mm 2) rfl)) (je_op opD_mul (jv d.toJC 3 (mm 3) rfl) (jv d.toJC 3 (mm 3) rfl))) (je_op opD_mul (je_op opD_mul (je_call d.toJC (Tj_l_dot T) (by decide) (mm 7) (ja_cons (jv d.toJC 5 (mm 5) rfl) (ja_cons (jv d.toJC 5 (mm 5) rfl) (ja_nil)))) (jv d.toJC 4 (mm 4) rfl)) (jv d.toJC 4 (mm 4) rfl)) rfl))))) (jb_one (js_ret (je_call d.toJC (Tj_l_root T) (by decide) (mm 2) (ja_cons (je_op opD_sub (je_int) (je_call d.toJC (Tj_l_rooted T) (by decide) (mm 8) (ja_cons (je_call d.toJC (Tj_l_dot T) (by decide) (mm 7) (ja_cons (jv d.toJC 5 (mm 5) rfl) (ja_cons (jv d.toJC 5 (mm 5) rfl) (ja_nil)))) (ja_nil)))) (ja_cons (je_call d.toJC (Tj_l_low T) (by decide) (mm 3) (ja_cons (je_op opD_add (je_op opD_mul (jv d.toJC 2 (mm 2) rfl) (jv d.toJC 2 (mm 2) rfl)) (je_op opD_mul (jv d.toJC 3 (mm 3) rfl) (jv d.toJC 3 (mm 3) rfl))) (ja_cons (je_op opD_mul (jv d.toJC 4 (mm 4) rfl) (jv d.toJC 4 (mm 4) rfl)) (ja_nil)))) (ja_nil)))))) (jb_nil)) (jb_one (js_ret (je_call d.toJC (Tj_l_root T) (by decide) (mm 2) (ja_cons (je_int) (ja_cons (je_call d.toJC (Tj_l_by_cord T) (by decide) (mm 4) (ja_cons (je_ix (jv d.toJC 0 (mm 0) rfl) (je_int)) (ja_cons (je_ix (jv d.toJC 0 (mm 0) rfl) (je_int)) (ja_cons (jv d.toJC 1 (mm 1) rfl) (ja_nil))))) (ja_nil)))))))))))
theorem Tj_l_distance (T : Tp fa fn bx K mg) : JF P w K mg base "_law_distance" 2 [] (fun ds _ => ds) 4 m_l_distance := by
  obtain ⟨fd, F⟩ := T.sy.def_ 45 (d := d_l_distance) rfl
  exact jf_mkN F fs_l_distance sc_l_distance (T.glo 59) ⟨rfl, by decide, by decide⟩ (fun _ _ _ _ _ _ us hl => match us, hl with | [_, _], _ => rfl) (fun X W d => body_l_distance T d)
theorem body_l_in_arc (T : Tp fa fn bx K mg) {X : Cx} {W : WX} (d : JD P w K mg base nm_l_in_arc (defScope (top 57)) vw_l_in_arc 1 X W) : JB X W (defBody (top 57)) t_l_in_arc :=
  jb_cons (js_par d.toJC 2 3 rfl rfl (by decide) (d.toJC.sC.loc 2 (mm 2) _ rfl) (d.toJC.sC.loc 3 (mm 3) _ rfl) (ja_cons (je_call d.toJC (Tj_l_minus T) (by decide) (mm 0) (ja_cons (je_ix (jv d.toJC 0 (mm 0) rfl) (je_int)) (ja_cons (je_ix (jv d.toJC 0 (mm 0) rfl) (je_int)) (ja_nil)))) (ja_cons (je_call d.toJC (Tj_l_minus T) (by decide) (mm 0) (ja_cons (je_ix (jv d.toJC 0 (mm 0) rfl) (je_int)) (ja_cons (je_ix (jv d.toJC 0 (mm 0) rfl) (je_int)) (ja_nil)))) (ja_nil))) (sw2 d.toJC.kd (by rw [d.toJC.ss]; exact (d.toJC.sC.loc 2 (mm 2) _ rfl)) (by rw [d.toJC.ss]; exact (d.toJC.sC.loc 3 (mm 3) _ rfl)) rfl (by decide +kernel) rfl rfl rfl)) (jb_one (js_ret (je_and (je_cmp opD_ge (je_call d.toJC (Tj_l_cross T) (by decide) (mm 1) (ja_cons (jv d.toJC 2 (mm 2) rfl) (ja_cons (jv d.toJC 1 (mm 1) rfl) (ja_nil)))) (je_int) rfl) (je_one (je_cmp opD_ge (je_call d.toJC (Tj_l_cross T) (by decide) (mm 1) (ja_cons (jv d.toJC 1 (mm 1) rfl) (ja_cons (jv d.toJC 3 (mm 3) rfl) (ja_nil)))) (je_int) rfl)))))
theorem Tj_l_in_arc (T : Tp fa fn bx K mg) : JF P w K mg base "_law_in_arc" 2 [] (fun ds _ => ds) 2 m_l_in_arc := by
  obtain ⟨fd, F⟩ := T.sy.def_ 46 (d := d_l_in_arc) rfl
  exact jf_mkN F fs_l_in_arc sc_l_in_arc (T.glo 49) ⟨rfl, by decide, by decide⟩ (fun _ _ _ _ _ _ us hl => match us, hl with | [_, _], _ => rfl) (fun X W d => body_l_in_arc T d)
theorem body_l_reach_of (T : Tp fa fn bx K mg) {X : Cx} {W : WX} (d : JD P w K mg base nm_l_reach_of (defScope (top 56)) vw_l_reach_of 4 X W) : JB X W (defBody (top 56)) t_l_reach_of :=
  jb_cons (js_set d.toJC 2 rfl (.inl (d.toJC.sC.loc 2 (mm 2) _ rfl)) (je_tup (ja_cons (je_tup (ja_cons (je_ix (jv d.toJC 1 (mm 1) rfl) (je_int)) (ja_cons (je_int) (ja_nil)))) (ja_cons (je_tup (ja_cons (je_ix (jv d.toJC 1 (mm 1) rfl) (je_int)) (ja_cons (je_int) (ja_nil)))) (ja_nil))))) (jb_cons (js_set d.toJC 3 rfl (.inl (d.toJC.sC.loc 3 (mm 3) _ rfl)) (je_call d.toJC (Tj_l_distance T) (by decide) (mm 0) (ja_cons (jv d.toJC 0 (mm 0) rfl) (ja_cons (jv d.toJC 2 (mm 2) rfl) (ja_nil))))) (jb_cons (js_if (jt_cmp (opD_eq d.toJC.room) (je_ix (jv d.toJC 0 (mm 0) rfl) (je_int)) (je_str) rfl) (jb_one (js_ret (je_tup (ja_cons (jv d.toJC 3 (mm 3) rfl) (ja_cons (je_call d.toJC (Tj_l_minus T) (by decide) (mm 1) (ja_cons (je_ix (jv d.toJC 0 (mm 0) rfl) (je_int)) (ja_cons (jv d.toJC 1 (mm 1) rfl) (ja_nil)))) (ja_nil)))))) (jb_nil)) (jb_cons (js_par d.toJC 4 5 rfl rfl (by decide) (d.toJC.sC.loc 4 (mm 4) _ rfl) (d.toJC.sC.loc 5 (mm 5) _ rfl) (ja_cons (je_ix (jv d.toJC 0 (mm 0) rfl) (je_neg (je_int))) (ja_cons (je_ix (jv d.toJC 0 (mm 0) rfl) (je_neg (je_int))) (ja_nil))) (sw2 d.toJC.kd (by rw [d.toJC.ss]; exact (d.toJC.sC.loc 4 (mm 4) _ rfl)) (by rw [d.toJC.ss]; exact (d.toJC.sC.loc 5 (mm 5) _ rfl)) rfl (by decide +kernel) rfl rfl rfl)) (jb_cons (js_if (jt_cmp (opD_eq d.toJC.room) (je_ix (jv d.toJC 0 (mm 0) rfl) (je_int)) (je_str) rfl) (jb_cons (js_par d.toJC 6 7 rfl rfl (by decide) (d.toJC.sC.loc 6 (mm 6) _ rfl) (d.toJC.sC.loc 7 (mm 7) _ rfl) (ja_cons (je_call d.toJC (Tj_l_minus T) (by decide) (mm 1) (ja_cons (jv d.toJC 1 (mm 1) rfl) (ja_cons (je_ix (jv d.toJC 0 (mm 0) rfl) (je_int)) (ja_nil)))) (ja_cons (je_call d.toJC (Tj_l_minus T) (by decide) (mm 1) (ja_cons (jv d.toJC 4 (mm 4) rfl) (ja_cons (je_ix (jv d.toJC 0 (mm 0) rfl) (je_int)) (ja_nil)))) (ja_nil))) (sw2 d.toJC.kd (by rw [d.toJC.ss]; exact (d.toJC.sC.loc 6 (mm 6) _ rfl)) (by rw [d.toJC.ss]; exact (d.toJC.sC.loc 7 (mm 7) _ rfl)) rfl (by decide +kernel) rfl rfl rfl)) (jb_one (js_if (jt_w (jw_and (jt_tru (je_call d.toJC (Tj_l_in_arc T) (by decide) (mm 2) (ja_cons (jv d.toJC 0 (mm 0) rfl) (ja_cons (jv d.toJC 6 (mm 6) rfl) (ja_nil))))) (jw_and1 (jt_cmp opD_gt (je_call d.toJC (Tj_l_dot T) (by decide) (mm 3) (ja_cons (jv d.toJC 6 (mm 6) rfl) (ja_cons (jv d.toJC 6 (mm 6) rfl) (ja_nil)))) (je_call d.toJC (Tj_l_dot T) (by decide) (mm 3) (ja_cons (jv d.toJC 7 (mm 7) rfl) (ja_cons (jv d.toJC 7 (mm 7) rfl) (ja_nil)))) rfl)))) (jb_one (js_ret (je_tup (ja_cons (jv d.toJC 3 (mm 3) rfl) (ja_cons (je_tup (ja_cons (je_op opD_sub (je_int) (je_ix (jv d.toJC 6 (mm 6) rfl) (je_int))) (ja_cons (je_op opD_sub (je_int) (je_ix (jv d.toJC 6 (mm 6) rfl) (je_int))) (ja_nil)))) (ja_nil)))))) (jb_nil)))) (jb_nil)) (jb_cons (js_par d.toJC 8 9 rfl rfl (by decide) (d.toJC.sC.loc 8 (mm 8) _ rfl) (d.toJC.sC.loc 9 (mm 9) _ rfl) (ja_cons (je_call d.toJC (Tj_l_minus T) (by decide) (mm 1) (ja_cons (jv d.toJC 5 (mm 5) rfl) (ja_cons (jv d.toJC 4 (mm 4) rfl) (ja_nil)))) (ja_cons (je_call d.toJC (Tj_l_minus T) (by decide) (mm 1) (ja_cons (jv d.toJC 1 (mm 1) rfl) (ja_cons (jv d.toJC 4 (mm 4) rfl) (ja_nil)))) (ja_nil))) (sw2 d.toJC.kd (by rw [d.toJC.ss]; exact (d.toJC.sC.loc 8 (mm 8) _ rfl)) (by rw [d.toJC.ss]; exact (d.toJC.sC.loc 9 (mm 9) _ rfl)) rfl (by decide +kernel) rfl rfl rfl)) (jb_cons (js_if (jt_cmp opD_le (je_call d.toJC (Tj_l_dot T) (by decide) (mm 3) (ja_cons (jv d.toJC 9 (mm 9) rfl) (ja_cons (jv d.toJC 8 (mm 8) rfl) (ja_nil)))) (je_int) rfl) (jb_one (js_ret (je_tup (ja_cons (jv d.toJC 3 (mm 3) rfl) (ja_cons (je_tup (ja_cons (je_op opD_sub (je_int) (je_ix (jv d.toJC 9 (mm 9) rfl) (je_int))) (ja_cons (je_op opD_sub (je_int) (je_ix (jv d.toJC 9 (mm 9) rfl) (je_int))) (ja_nil)))) (ja_nil)))))) (jb_nil)) (jb_cons (js_if (jt_cmp opD_ge (je_call d.toJC (Tj_l_dot T) (by decide) (mm 3) (ja_cons (jv d.toJC 9 (mm 9) rfl) (ja_cons (jv d.toJC 8 (mm 8) rfl) (ja_nil)))) (je_call d.toJC (Tj_l_dot T) (by decide) (mm 3) (ja_cons (jv d.toJC 8 (mm 8) rfl) (ja_cons (jv d.toJC 8 (mm 8) rfl) (ja_nil)))) rfl) (jb_one (js_ret (je_tup (ja_cons (jv d.toJC 3 (mm 3) rfl) (ja_cons (je_call d.toJC (Tj_l_minus T) (by decide) (mm 1) (ja_cons (jv d.toJC 5 (mm 5) rfl) (ja_cons (jv d.toJC 1 (mm 1) rfl) (ja_nil)))) (ja_nil)))))) (jb_nil)) (jb_cons (js_set d.toJC 10 rfl (.inl (d.toJC.sC.loc 10 (mm 10) _ rfl)) (je_call d.toJC (Tj_l_cross T) (by decide) (mm 4) (ja_cons (jv d.toJC 8 (mm 8) rfl) (ja_cons (jv d.toJC 9 (mm 9) rfl) (ja_nil))))) (jb_one (js_ret (je_tup (ja_cons (jv d.toJC 3 (mm 3) rfl) (ja_cons (je_ifExp (jt_cmp opD_gt (jv d.toJC 10 (mm 10) rfl) (je_int) rfl) (je_tup (ja_cons (je_ix (jv d.toJC 8 (mm 8) rfl) (je_int)) (ja_cons (je_op opD_sub (je_int) (je_ix (jv d.toJC 8 (mm 8) rfl) (je_int))) (ja_nil)))) (je_tup (ja_cons (je_op opD_sub (je_int) (je_ix (jv d.toJC 8 (mm 8) rfl) (je_int))) (ja_cons (je_ix (jv d.toJC 8 (mm 8) rfl) (je_int)) (ja_nil))))) (ja_nil))))))))))))))
theorem Tj_l_reach_of (T : Tp fa fn bx K mg) : JF P w K mg base "_law_reach_of" 2 [] (fun ds _ => ds) 5 m_l_reach_of := by
  obtain ⟨fd, F⟩ := T.sy.def_ 47 (d := d_l_reach_of) rfl
  exact jf_mkN F fs_l_reach_of sc_l_reach_of (T.glo 44) ⟨rfl, by decide, by decide⟩ (fun _ _ _ _ _ _ us hl => match us, hl with | [_, _], _ => rfl) (fun X W d => body_l_reach_of T d)
theorem body_l_apart (T : Tp fa fn bx K mg) {X : Cx} {W : WX} (d : JD P w K mg base nm_l_apart (defScope (top 58)) vw_l_apart 5 X W) : JB X W (defBody (top 58)) t_l_apart :=
  jb_cons (js_set d.toJC 2 rfl (.inl (d.toJC.sC.loc 2 (mm 2) _ rfl)) (je_lstR (ja_nil))) (jb_cons (js_for d (ji_val (je_tup (ja_cons (je_tup (ja_cons (jv d.toJC 0 (mm 0) rfl) (ja_cons (jv d.toJC 1 (mm 1) rfl) (ja_nil)))) (ja_cons (je_tup (ja_cons (jv d.toJC 1 (mm 1) rfl) (ja_cons (jv d.toJC 0 (mm 0) rfl) (ja_nil)))) (ja_nil))))) (jg_tup d.toJC.calm (jgs_cons (jg_name d.toJC 3 rfl (.inl (d.toJC.sC.loc 3 (mm 3) _ rfl))) (jgs_cons (jg_name d.toJC 4 rfl (.inr ⟨d.toJC.sC.cel 4 (mm 0) _ rfl, d.fn⟩)) (jgs_nil)))) (jb_cons (js_set d.toJC 5 rfl (.inl (d.toJC.sC.loc 5 (mm 4) _ rfl)) (je_ifExp (jt_cmp (opD_ne d.toJC.room) (je_ix (jv d.toJC 3 (mm 3) rfl) (je_int)) (je_str) rfl) (je_sl (jv d.toJC 3 (mm 3) rfl) (jo_some (je_int)) (jo_none)) (je_sl (jv d.toJC 3 (mm 3) rfl) (jo_some (je_int)) (jo_none)))) (jb_cons (js_set d.toJC 2 rfl (.inl (d.toJC.sC.loc 2 (mm 2) _ rfl)) (je_op opD_catG (jv d.toJC 2 (mm 2) rfl) (je_lc d.toJC (own := [(".0", 11), ("_law_spot", 12)]) (vw2 := vb0_l_apart) (by decide +kernel) (scOf (by decide +kernel)) (by decide) (ji_val (jv d.toJC 5 (mm 5) rfl)) (fun _ c0 => jg_name c0 12 rfl (.inl (c0.sC.loc 12 (mm 1) _ rfl))) (fun _ c0 => jts_nil) (fun _ c0 => je_ix (je_call c0 (Tj_l_reach_of T) (by decide) (mm 0) (ja_cons (jv c0 4 (mm 0) rfl) (ja_cons (jv c0 12 (mm 2) rfl) (ja_nil)))) (je_int)) (by walk_at "mo" <;> first | with_reducible exact (Tj_l_reach_of (P := P) (w := w) (base := base) T).mo) (by walk_at "mo" <;> first | with_reducible exact (Tj_l_reach_of (P := P) (w := w) (base := base) T).mo)))) (jb_one (js_if (jt_cmp (opD_eq d.toJC.room) (je_ix (jv d.toJC 3 (mm 3) rfl) (je_int)) (je_str) rfl) (jb_cons (js_asg (je_call d.toJC (Tj_l_reach_of T) (by decide) (mm 0) (ja_cons (jv d.toJC 4 (mm 4) rfl) (ja_cons (je_ix (jv d.toJC 3 (mm 3) rfl) (je_int)) (ja_nil)))) (jg_tup d.toJC.calm (jgs_cons (jg_name d.toJC 6 rfl (.inl (d.toJC.sC.loc 6 (mm 5) _ rfl))) (jgs_cons (jg_name d.toJC 7 rfl (.inl (d.toJC.sC.loc 7 (mm 6) _ rfl))) (jgs_nil))))) (jb_cons (js_set d.toJC 8 rfl (.inl (d.toJC.sC.loc 8 (mm 7) _ rfl)) (je_call d.toJC (Tj_l_rooted T) (by decide) (mm 1) (ja_cons (je_call d.toJC (Tj_l_dot T) (by decide) (mm 2) (ja_cons (je_call d.toJC (Tj_l_minus T) (by decide) (mm 3) (ja_cons (je_ix (jv d.toJC 3 (mm 3) rfl) (je_int)) (ja_cons (je_ix (jv d.toJC 3 (mm 3) rfl) (je_int)) (ja_nil)))) (ja_cons (je_call d.toJC (Tj_l_minus T) (by decide) (mm 3) (ja_cons (je_ix (jv d.toJC 3 (mm 3) rfl) (je_int)) (ja_cons (je_ix (jv d.toJC 3 (mm 3) rfl) (je_int)) (ja_nil)))) (ja_nil)))) (ja_nil)))) (jb_one (js_if (jt_w (jw_and (jt_cmp (opD_ne d.toJC.room) (jv d.toJC 7 (mm 7) rfl) (je_tup (ja_cons (je_int) (ja_cons (je_int) (ja_nil)))) rfl) (jw_and1 (jt_not (jt_tru (je_call d.toJC (Tj_l_is_on T) (by decide) (mm 4) (ja_cons (jv d.toJC 4 (mm 4) rfl) (ja_cons (je_tup (ja_cons (je_tup (ja_cons (je_ix (je_ix (jv d.toJC 3 (mm 3) rfl) (je_int)) (je_int)) (ja_cons (je_int) (ja_nil)))) (ja_cons (je_tup (ja_cons (je_ix (je_ix (jv d.toJC 3 (mm 3) rfl) (je_int)) (je_int)) (ja_cons (je_int) (ja_nil)))) (ja_nil)))) (ja_nil))))))))) (jb_one (js_if (jt_tru (je_call d.toJC (Tj_l_in_arc T) (by decide) (mm 5) (ja_cons (jv d.toJC 3 (mm 3) rfl) (ja_cons (jv d.toJC 7 (mm 7) rfl) (ja_nil))))) (jb_one (js_expr (je_append (jv d.toJC 2 (mm 2) rfl) (ja_cons (je_tup (ja_cons (je_call d.toJC (Tj_l_sum T) (by decide) (mm 6) (ja_cons (je_ix (jv d.toJC 6 (mm 6) rfl) (je_int)) (ja_cons (je_tup (ja_cons (je_op opD_sub (je_int) (jv d.toJC 8 (mm 8) rfl)) (ja_cons (je_int) (ja_nil)))) (ja_nil)))) (ja_cons (je_ix (jv d.toJC 6 (mm 6) rfl) (je_int)) (ja_cons (je_ix (jv d.toJC 6 (mm 6) rfl) (je_int)) (ja_nil))))) (ja_nil))))) (jb_nil))) (jb_nil))))) (jb_nil)))))) (jb_cons (js_frz 2 (js_set d.toJC 9 rfl (.inl (d.toJC.sC.loc 9 (mm 8) _ rfl)) (je_ix (jv d.toJC 2 (mm 2) rfl) (je_int)))) (jb_cons (js_for d (ji_val (jv d.toJC 2 (mm 2) rfl)) (jg_name d.toJC 10 rfl (.inl (d.toJC.sC.loc 10 (mm 9) _ rfl))) (jb_one (js_if (jt_cmp opD_lt (je_call d.toJC (Tj_l_compare T) (by decide) (mm 7) (ja_cons (jv d.toJC 10 (mm 10) rfl) (ja_cons (jv d.toJC 9 (mm 9) rfl) (ja_nil)))) (je_int) rfl) (jb_one (js_set d.toJC 9 rfl (.inl (d.toJC.sC.loc 9 (mm 8) _ rfl)) (jv d.toJC 10 (mm 10) rfl))) (jb_nil)))) (jb_one (js_ret (jv d.toJC 9 (mm 9) rfl))))))
theorem Tj_l_apart (T : Tp fa fn bx K mg) : JF P w K mg base "_law_apart" 2 [] (fun ds _ => ds) 6 m_l_apart := by
  obtain ⟨fd, F⟩ := T.sy.def_ 48 (d := d_l_apart) rfl
  exact jf_mkN F fs_l_apart sc_l_apart (T.glo 8) ⟨rfl, by decide, by decide⟩ (fun _ _ _ _ _ _ us hl => match us, hl with | [_, _], _ => rfl) (fun X W d => body_l_apart T d)
theorem body_l_moved (T : Tp fa fn bx K mg) {X : Cx} {W : WX} (d : JD P w K mg base nm_l_moved (defScope (top 60)) vw_l_moved 0 X W) : JB X W (defBody (top 60)) t_l_moved :=
  jb_one (js_ret (je_op opD_add (je_sl (jv d.toJC 0 (mm 0) rfl) (jo_none) (jo_some (je_int))) (je_callTy d.toJC cd_tup (mm 0) (T.free 61) (by decide +kernel) (ja_cons (je_lc d.toJC (own := [(".0", 3), ("_law_a", 4), ("_law_b", 5)]) (vw2 := vb0_l_moved) (by decide +kernel) (scOf (by decide +kernel)) (by decide) (ji_val (je_sl (jv d.toJC 0 (mm 0) rfl) (jo_some (je_int)) (jo_none))) (fun _ c0 => jg_tup c0.calm (jgs_cons (jg_name c0 4 rfl (.inl (c0.sC.loc 4 (mm 1) _ rfl))) (jgs_cons (jg_name c0 5 rfl (.inl (c0.sC.loc 5 (mm 2) _ rfl))) (jgs_nil)))) (fun _ c0 => jts_nil) (fun _ c0 => je_tup (ja_cons (je_op opD_add (jv c0 4 (mm 3) rfl) (jv c0 1 (mm 0) rfl)) (ja_cons (je_op opD_add (jv c0 5 (mm 4) rfl) (jv c0 2 (mm 1) rfl)) (ja_nil)))) (by walk_at "mo") (by walk_at "mo")) (ja_nil)))))
theorem Tj_l_moved (T : Tp fa fn bx K mg) : JF P w K mg base "_law_moved" 3 [] (fun ds _ => ds) 1 m_l_moved := by
  obtain ⟨fd, F⟩ := T.sy.def_ 49 (d := d_l_moved) rfl
  exact jf_mkN F fs_l_moved sc_l_moved (T.glo 10) ⟨rfl, by decide, by decide⟩ (fun _ _ _ _ _ _ us hl => match us, hl with | [_, _, _], _ => rfl) (fun X W d => body_l_moved T d)
theorem body_l_box (T : Tp fa fn bx K mg) {X : Cx} {W : WX} (d : JD P w K mg base nm_l_box (defScope (top 59)) vw_l_box 1 X W) : JB X W (defBody (top 59)) t_l_box :=
  jb_cons (js_set d.toJC 1 rfl (.inl (d.toJC.sC.loc 1 (mm 1) _ rfl)) (je_callTy d.toJC cd_lst (mm 0) (T.free 42) (by decide +kernel) (ja_cons (je_sl (jv d.toJC 0 (mm 0) rfl) (jo_some (je_int)) (jo_none)) (ja_nil)))) (jb_cons (js_if (jt_cmp (opD_eq d.toJC.room) (je_ix (jv d.toJC 0 (mm 0) rfl) (je_int)) (je_str) rfl) (jb_cons (js_set d.toJC 2 rfl (.inl (d.toJC.sC.loc 2 (mm 2) _ rfl)) (je_call d.toJC (Tj_l_rooted T) (by decide) (mm 1) (ja_cons (je_call d.toJC (Tj_l_dot T) (by decide) (mm 2) (ja_cons (je_call d.toJC (Tj_l_minus T) (by decide) (mm 3) (ja_cons (je_ix (jv d.toJC 0 (mm 0) rfl) (je_int)) (ja_cons (je_ix (jv d.toJC 0 (mm 0) rfl) (je_int)) (ja_nil)))) (ja_cons (je_call d.toJC (Tj_l_minus T) (by decide) (mm 3) (ja_cons (je_ix (jv d.toJC 0 (mm 0) rfl) (je_int)) (ja_cons (je_ix (jv d.toJC 0 (mm 0) rfl) (je_int)) (ja_nil)))) (ja_nil)))) (ja_nil)))) (jb_one (js_set d.toJC 1 rfl (.inl (d.toJC.sC.loc 1 (mm 1) _ rfl)) (je_op opD_cat (jv d.toJC 1 (mm 1) rfl) (je_lst (ja_cons (je_tup (ja_cons (je_op opD_sub (je_ix (je_ix (jv d.toJC 0 (mm 0) rfl) (je_int)) (je_int)) (jv d.toJC 2 (mm 2) rfl)) (ja_cons (je_op opD_sub (je_ix (je_ix (jv d.toJC 0 (mm 0) rfl) (je_int)) (je_int)) (jv d.toJC 2 (mm 2) rfl)) (ja_nil)))) (ja_cons (je_tup (ja_cons (je_op opD_add (je_ix (je_ix (jv d.toJC 0 (mm 0) rfl) (je_int)) (je_int)) (jv d.toJC 2 (mm 2) rfl)) (ja_cons (je_op opD_add (je_ix (je_ix (jv d.toJC 0 (mm 0) rfl) (je_int)) (je_int)) (jv d.toJC 2 (mm 2) rfl)) (ja_nil)))) (ja_nil)))))))) (jb_nil)) (jb_cons (js_par d.toJC 3 4 rfl rfl (by decide) (d.toJC.sC.loc 3 (mm 3) _ rfl) (d.toJC.sC.loc 4 (mm 4) _ rfl) (ja_cons (je_lc d.toJC (own := [(".0", 5), ("_law_x", 6), ("_law_y", 7)]) (vw2 := vb0_l_box) (by decide +kernel) (scOf (by decide +kernel)) (by decide) (ji_val (jv d.toJC 1 (mm 1) rfl)) (fun _ c0 => jg_tup c0.calm (jgs_cons (jg_name c0 6 rfl (.inl (c0.sC.loc 6 (mm 1) _ rfl))) (jgs_cons (jg_name c0 7 rfl (.inl (c0.sC.loc 7 (mm 2) _ rfl))) (jgs_nil)))) (fun _ c0 => jts_nil) (fun _ c0 => jv c0 6 (mm 1) rfl) (by walk_at "mo") (by walk_at "mo")) (ja_cons (je_lc d.toJC (own := [(".0", 5), ("_law_x", 6), ("_law_y", 7)]) (vw2 := vb1_l_box) (by decide +kernel) (scOf (by decide +kernel)) (by decide) (ji_val (jv d.toJC 1 (mm 1) rfl)) (fun _ c1 => jg_tup c1.calm (jgs_cons (jg_name c1 6 rfl (.inl (c1.sC.loc 6 (mm 1) _ rfl))) (jgs_cons (jg_name c1 7 rfl (.inl (c1.sC.loc 7 (mm 2) _ rfl))) (jgs_nil)))) (fun _ c1 => jts_nil) (fun _ c1 => jv c1 7 (mm 2) rfl) (by walk_at "mo") (by walk_at "mo")) (ja_nil))) (sw2 d.toJC.kd (by rw [d.toJC.ss]; exact (d.toJC.sC.loc 3 (mm 3) _ rfl)) (by rw [d.toJC.ss]; exact (d.toJC.sC.loc 4 (mm 4) _ rfl)) rfl (by decide +kernel) rfl rfl rfl)) (jb_one (js_ret (je_tup (ja_cons (je_callB d.toJC (cd_minL d.toJC.calm) (mm 4) (T.free 2) (by decide +kernel) (ja_cons (jv d.toJC 3 (mm 3) rfl) (ja_nil))) (ja_cons (je_callB d.toJC (cd_maxL d.toJC.calm) (mm 5) (T.free 1) (by decide +kernel) (ja_cons (jv d.toJC 3 (mm 3) rfl) (ja_nil))) (ja_cons (je_callB d.toJC (cd_minL d.toJC.calm) (mm 4) (T.free 2) (by decide +kernel) (ja_cons (jv d.toJC 4 (mm 4) rfl) (ja_nil))) (ja_cons (je_callB d.toJC (cd_maxL d.toJC.calm) (mm 5) (T.free 1) (by decide +kernel) (ja_cons (jv d.toJC 4 (mm 4) rfl) (ja_nil))) (ja_nil))))))))))
theorem Tj_l_box (T : Tp fa fn bx K mg) : JF P w K mg base "_law_box" 1 [] (fun ds _ => ds) 2 m_l_box := by
  obtain ⟨fd, F⟩ := T.sy.def_ 50 (d := d_l_box) rfl
  exact jf_mkN F fs_l_box sc_l_box (T.glo 62) ⟨rfl, by decide, by decide⟩ (fun _ _ _ _ _ _ us hl => match us, hl with | [_], _ => rfl) (fun X W d => body_l_box T d)
theorem body_l_off (T : Tp fa fn bx K mg) {X : Cx} {W : WX} (d : JD P w K mg base nm_l_off (defScope (top 61)) vw_l_off 2 X W) : JB X W (defBody (top 61)) t_l_off :=
  jb_cons (js_par d.toJC 3 4 rfl rfl (by decide) (d.toJC.sC.loc 3 (mm 3) _ rfl) (d.toJC.sC.loc 4 (mm 4) _ rfl) (ja_cons (je_call d.toJC (Tj_l_box T) (by decide) (mm 0) (ja_cons (jv d.toJC 1 (mm 1) rfl) (ja_nil))) (ja_cons (je_call d.toJC (Tj_l_box T) (by decide) (mm 0) (ja_cons (jv d.toJC 2 (mm 2) rfl) (ja_nil))) (ja_nil))) (sw2 d.toJC.kd (by rw [d.toJC.ss]; exact (d.toJC.sC.loc 3 (mm 3) _ rfl)) (by rw [d.toJC.ss]; exact (d.toJC.sC.loc 4 (mm 4) _ rfl)) rfl (by decide +kernel) rfl rfl rfl)) (jb_cons (js_set d.toJC 5 rfl (.inl (d.toJC.sC.loc 5 (mm 5) _ rfl)) (je_op opD_add (je_op opD_add (je_op opD_sub (je_ix (jv d.toJC 3 (mm 3) rfl) (je_int)) (je_ix (jv d.toJC 4 (mm 4) rfl) (je_int))) (je_int)) (je_call d.toJC (Tj_l_take T) (by decide) (mm 1) (ja_cons (jv d.toJC 0 (mm 0) rfl) (ja_cons (je_ix (je_lst (ja_cons (je_int) (ja_cons (je_int) (ja_cons (je_int) (ja_nil))))) (je_call d.toJC (Tj_l_take T) (by decide) (mm 1) (ja_cons (jv d.toJC 0 (mm 0) rfl) (ja_cons (je_int) (ja_nil))))) (ja_nil)))))) (jb_cons (js_set d.toJC 6 rfl (.inl (d.toJC.sC.loc 6 (mm 6) _ rfl)) (je_op opD_add (je_op opD_add (je_op opD_sub (je_ix (jv d.toJC 3 (mm 3) rfl) (je_int)) (je_ix (jv d.toJC 4 (mm 4) rfl) (je_int))) (je_int)) (je_call d.toJC (Tj_l_take T) (by decide) (mm 1) (ja_cons (jv d.toJC 0 (mm 0) rfl) (ja_cons (je_ix (je_lst (ja_cons (je_int) (ja_cons (je_int) (ja_cons (je_int) (ja_nil))))) (je_call d.toJC (Tj_l_take T) (by decide) (mm 1) (ja_cons (jv d.toJC 0 (mm 0) rfl) (ja_cons (je_int) (ja_nil))))) (ja_nil)))))) (jb_cons (js_set d.toJC 7 rfl (.inl (d.toJC.sC.loc 7 (mm 7) _ rfl)) (je_call d.toJC (Tj_l_take T) (by decide) (mm 1) (ja_cons (jv d.toJC 0 (mm 0) rfl) (ja_cons (je_int) (ja_nil))))) (jb_cons (js_if (jt_cmp (opD_eq d.toJC.room) (jv d.toJC 7 (mm 7) rfl) (je_int) rfl) (jb_one (js_set d.toJC 6 rfl (.inl (d.toJC.sC.loc 6 (mm 6) _ rfl)) (je_op opD_sub (je_call d.toJC (Tj_l_take T) (by decide) (mm 1) (ja_cons (jv d.toJC 0 (mm 0) rfl) (ja_cons (je_int) (ja_nil)))) (je_int)))) (jb_nil)) (jb_cons (js_if (jt_cmp (opD_eq d.toJC.room) (jv d.toJC 7 (mm 7) rfl) (je_int) rfl) (jb_one (js_set d.toJC 5 rfl (.inl (d.toJC.sC.loc 5 (mm 5) _ rfl)) (je_op opD_sub (je_call d.toJC (Tj_l_take T) (by decide) (mm 1) (ja_cons (jv d.toJC 0 (mm 0) rfl) (ja_cons (je_int) (ja_nil)))) (je_int)))) (jb_nil)) (jb_one (js_ret (je_call d.toJC (Tj_l_moved T) (by decide) (mm 2) (ja_cons (jv d.toJC 2 (mm 2) rfl) (ja_cons (jv d.toJC 5 (mm 5) rfl) (ja_cons (jv d.toJC 6 (mm 6) rfl) (ja_nil))))))))))))
theorem Tj_l_off (T : Tp fa fn bx K mg) : JF P w K mg base "_law_off" 3 [] (fun ds _ => ds) 3 m_l_off := by
  obtain ⟨fd, F⟩ := T.sy.def_ 51 (d := d_l_off) rfl
  exact jf_mkN F fs_l_off sc_l_off (T.glo 7) ⟨rfl, by decide, by decide⟩ (fun _ _ _ _ _ _ us hl => match us, hl with | [_, _, _], _ => rfl) (fun X W d => body_l_off T d)
theorem body_law (T : Tp fa fn bx K mg) {X : Cx} {W : WX} (d : JD P w K mg base nm_law (defScope (top 62)) vw_law 7 X W) : JB X W (defBody (top 62)) t_law :=
  jb_cons (js_for d (ji_r1 d.toJC (mm 0) (T.free 0) (ja_cons (je_callB d.toJC (cd_max d.toJC.calm) (mm 1) (T.free 1) (by decide +kernel) (ja_cons (je_int) (ja_cons (je_callB d.toJC (cd_min d.toJC.calm) (mm 2) (T.free 2) (by decide +kernel) (ja_cons (je_int) (ja_cons (je_callB d.toJC cd_len (mm 3) (T.free 3) (by decide +kernel) (ja_cons (jv d.toJC 0 (mm 0) rfl) (ja_nil))) (ja_nil)))) (ja_nil)))) (ja_nil))) (jg_name d.toJC 1 rfl (.inl (d.toJC.sC.loc 1 (mm 1) _ rfl))) (jb_cons (js_set d.toJC 2 rfl (.inl (d.toJC.sC.loc 2 (mm 2) _ rfl)) (je_call d.toJC (Tj_l_bag T) (by decide) (mm 4) (ja_cons (jv d.toJC 0 (mm 0) rfl) (ja_cons (jv d.toJC 1 (mm 1) rfl) (ja_nil))))) (jb_one (js_for d (ji_r1 d.toJC (mm 0) (T.free 0) (ja_cons (je_int) (ja_nil))) (jg_name d.toJC 3 rfl (.inl (d.toJC.sC.loc 3 (mm 3) _ rfl))) (jb_cons (js_set d.toJC 4 rfl (.inl (d.toJC.sC.loc 4 (mm 4) _ rfl)) (je_call d.toJC (Tj_l_thing T) (by decide) (mm 5) (ja_cons (jv d.toJC 2 (mm 2) rfl) (ja_cons (je_int) (ja_cons (je_call d.toJC (Tj_l_take T) (by decide) (mm 6) (ja_cons (jv d.toJC 2 (mm 2) rfl) (ja_cons (je_int) (ja_nil)))) (ja_nil)))))) (jb_cons (js_set d.toJC 5 rfl (.inl (d.toJC.sC.loc 5 (mm 5) _ rfl)) (je_call d.toJC (Tj_l_thing T) (by decide) (mm 5) (ja_cons (jv d.toJC 2 (mm 2) rfl) (ja_cons (je_int) (ja_cons (je_call d.toJC (Tj_l_take T) (by decide) (mm 6) (ja_cons (jv d.toJC 2 (mm 2) rfl) (ja_cons (je_int) (ja_nil)))) (ja_nil)))))) (jb_cons (js_if (jt_cmp opD_lt (jv d.toJC 3 (mm 3) rfl) (je_int) rfl) (jb_cons (js_set d.toJC 5 rfl (.inl (d.toJC.sC.loc 5 (mm 5) _ rfl)) (je_call d.toJC (Tj_l_off T) (by decide) (mm 7) (ja_cons (jv d.toJC 2 (mm 2) rfl) (ja_cons (jv d.toJC 4 (mm 4) rfl) (ja_cons (jv d.toJC 5 (mm 5) rfl) (ja_nil)))))) (jb_one (js_set d.toJC 6 rfl (.inl (d.toJC.sC.loc 6 (mm 6) _ rfl)) (je_call d.toJC (Tj_l_apart T) (by decide) (mm 8) (ja_cons (jv d.toJC 4 (mm 4) rfl) (ja_cons (jv d.toJC 5 (mm 5) rfl) (ja_nil))))))) (jb_cons (js_par d.toJC 7 8 rfl rfl (by decide) (d.toJC.sC.loc 7 (mm 7) _ rfl) (d.toJC.sC.loc 8 (mm 8) _ rfl) (ja_cons (je_ix (jv d.toJC 4 (mm 4) rfl) (je_op opD_sub (je_op opD_sub (je_callB d.toJC cd_len (mm 3) (T.free 3) (by decide +kernel) (ja_cons (jv d.toJC 4 (mm 4) rfl) (ja_nil))) (je_int)) (je_call d.toJC (Tj_l_take T) (by decide) (mm 6) (ja_cons (jv d.toJC 2 (mm 2) rfl) (ja_cons (je_op opD_sub (je_int) (je_callTy d.toJC cd_int (mm 9) (T.free 9) (by decide +kernel) (ja_cons (je_cmp (opD_eq d.toJC.room) (je_ix (jv d.toJC 4 (mm 4) rfl) (je_int)) (je_str) rfl) (ja_nil)))) (ja_nil)))))) (ja_cons (je_ix (jv d.toJC 5 (mm 5) rfl) (je_neg (je_int))) (ja_nil))) (sw2 d.toJC.kd (by rw [d.toJC.ss]; exact (d.toJC.sC.loc 7 (mm 7) _ rfl)) (by rw [d.toJC.ss]; exact (d.toJC.sC.loc 8 (mm 8) _ rfl)) rfl (by decide +kernel) rfl rfl rfl)) (jb_cons (js_set d.toJC 5 rfl (.inl (d.toJC.sC.loc 5 (mm 5) _ rfl)) (je_call d.toJC (Tj_l_moved T) (by decide) (mm 10) (ja_cons (jv d.toJC 5 (mm 5) rfl) (ja_cons (je_op opD_sub (je_ix (jv d.toJC 7 (mm 7) rfl) (je_int)) (je_ix (jv d.toJC 8 (mm 8) rfl) (je_int))) (ja_cons (je_op opD_sub (je_ix (jv d.toJC 7 (mm 7) rfl) (je_int)) (je_ix (jv d.toJC 8 (mm 8) rfl) (je_int))) (ja_nil)))))) (jb_one (js_set d.toJC 6 rfl (.inl (d.toJC.sC.loc 6 (mm 6) _ rfl)) (je_tup (ja_cons (je_tup (ja_cons (je_int) (ja_cons (je_int) (ja_nil)))) (ja_cons (je_int) (ja_cons (je_tup (ja_cons (je_int) (ja_cons (je_int) (ja_nil)))) (ja_nil)))))))))) (jb_one (js_if (jt_w (jw_or (jt_cmp (opD_ne d.toJC.room) (je_call d.toJC (Tj_apart T) (by decide) (mm 11) (ja_cons (jv d.toJC 4 (mm 4) rfl) (ja_cons (jv d.toJC 5 (mm 5) rfl) (ja_nil)))) (jv d.toJC 6 (mm 6) rfl) rfl) (jw_or1 (jt_cmp (opD_ne d.toJC.room) (je_call d.toJC (Tj_apart T) (by decide) (mm 11) (ja_cons (jv d.toJC 5 (mm 5) rfl) (ja_cons (jv d.toJC 4 (mm 4) rfl) (ja_nil)))) (jv d.toJC 6 (mm 6) rfl) rfl)))) (jb_one (js_ret (je_bl))) (jb_nil)))))))))) (jb_one (js_ret (je_bl)))
theorem ok_law (T : Tp fa fn bx K mg) {f : Addr} {fd : FuncData} (F : FunD K d_law.name d_law.qual d_law.params d_law.body d_law.scope (d_law.dvs K) (d_law.kws K) f fd) : FnOk P w K mg base (L2.CX P w) 8 f fd ["_law_script"] (LSp K 1 m_law) :=
  ok_mkN F fs_law sc_law fun X W d => body_law T d
theorem mo_law {P : Program} {w : World} {base : Heap} (T : Tp fa fn bx K mg) : MoF m_law := moFn (moS_of (k := 7) (P := P) (w := w) (base := base) fs_law sc_law ⟨rfl, by decide, by decide⟩ fun X W d => body_law T d)
end
end Ld.Lt.K17

namespace Ld.Lt.K17
open PySem PySem.Spec PyProof.Rows L2 Bl Lb Ld Rl Rs
theorem corn_mv (t : P2) (T : Th) : cornL (mvT (.shift t) T) = (cornL T).map (mvP (.shift t)) := by
  cases T <;> rfl
theorem corn_tin {m : Nat} {T : Th} (h : TIn m T) {v : P2} (hv : v ∈ cornL T) : PIn m v := by
  refine pts_tin h v ?_
  cases T with
  | spot p => exact hv
  | cord p q => exact hv
  | bow c p q => exact List.mem_cons_of_mem _ hv
theorem corn_on {T : Th} (hT : GoodTh T) {v : P2} (hv : v ∈ cornL T) : InS T (o v.1) (o v.2) := by
  obtain ⟨f, l, h⟩ := corn_ex hv
  exact corner_in hT h
theorem due_eq {A B : Th} (hA : GoodTh A) (hB : GoodTh B) {v w : P2} (hv : v ∈ cornL A) (hw : w ∈ cornL B) {t : P2} (ht : t = (v.1 - w.1, v.2 - w.2)) (hB' : GoodTh (mvT (.shift t) B)) : apR A (mvT (.shift t) B) = ⟨0, 0, 0⟩ ∧ apR (mvT (.shift t) B) A = ⟨0, 0, 0⟩ := by
  have e : mvP (.shift t) w = v := by
    rw [ht]
    exact Prod.ext (by show w.1 + (v.1 - w.1) = v.1; omega) (by show w.2 + (v.2 - w.2) = v.2; omega)
  refine ap_meet hA hB' (corn_on hA hv) (corn_on hB' ?_)
  rw [corn_mv]
  exact List.mem_map.mpr ⟨w, hw, e⟩
theorem last_ix {B : Th} {S : Sto} {Q : DK} (k : ∀ w, w ∈ cornL B → Q (pt w) S) : fIx (thD B) (.int (-1)) S Q := by
  cases B with
  | spot p => exact k p (by simp [cornL])
  | cord p q => exact k q (by simp [cornL])
  | bow c p q => exact k q (by simp [cornL])
def lenI : Th → Int
  | .spot _ => 2
  | .cord _ _ => 3
  | .bow _ _ _ => 4
theorem len_th {A : Th} {S : Sto} {Q : DK} (k : Q (.int (lenI A)) S) : bLen [thD A] S Q := by
  cases A <;> exact k
theorem kind_ix {A : Th} {S : Sto} {Q : DK} (h1 : lenI A = 2 → Q (.str "spot") S) (h2 : lenI A = 3 → Q (.str "cord") S) (h3 : lenI A = 4 → Q (.str "bow") S) : fIx (thD A) (.int 0) S Q := by
  cases A with
  | spot p => exact h1 rfl
  | cord p q => exact h2 rfl
  | bow c p q => exact h3 rfl
theorem ix_corn {A : Th} {d : Int} {S : Sto} {Q : DK} (d0 : 0 ≤ d) (h : d < 1 ∨ (d < 2 ∧ lenI A ≠ 2)) (k : ∀ v, v ∈ cornL A → Q (pt v) S) : fIx (thD A) (.int (lenI A - 1 - d)) S Q := by
  rcases (by omega : d = 0 ∨ (d = 1 ∧ lenI A ≠ 2)) with h | ⟨h, hk⟩ <;> subst h
  · cases A with
    | spot p => exact k p (by simp [cornL])
    | cord p q => exact k q (by simp [cornL])
    | bow c p q => exact k q (by simp [cornL])
  · cases A with
    | spot p => exact absurd rfl hk
    | cord p q => exact k p (by simp [cornL])
    | bow c p q => exact k p (by simp [cornL])
theorem law_pure : ∀ ns : List Int, ns.length ≤ 63 → m_law [.lst (ns.map D.int)] (fun _ => none) (fun d _ => d = .bl true) fun _ _ => False := by
  intro ns hl
  refine e_law ?_
  unfold t_law
  walk_at "bl"
  refine Go.r1' (n := max 1 (min 3 ns.length)) (by rw [List.length_map]; split <;> split <;> omega) (by omega) ?_
  refine forD_rng (fun j e s => ∃ o1 o2 o3 o4 o5 o6 o7 o8, e = [some (.lst (ns.map D.int)), o1, o2, o3, o4, o5, o6, o7, o8]) ⟨_, _, _, _, _, _, _, _, rfl⟩ ?_ ?_
  · rintro j e s hj ⟨o1, o2, o3, o4, o5, o6, o7, o8, rfl⟩
    refine ⟨_, rfl, fun N' hnx _ _ _ _ => ?_⟩
    show sSeq _ _ [some (.lst (ns.map D.int)), some (.int (0 + j)), o2, o3, o4, o5, o6, o7, o8] _ _
    walk_at "bl"
    refine Ld.bag_spec (by omega) (by omega) fun a S1 na b1 f1 => ?_
    walk_at "bl"
    refine Go.r1' (n := 6) rfl (by decide) ?_
    refine forD_rng (fun w e s => Bg s a ∧ ∃ o1 o3 o4 o5 o6 o7 o8, e = [some (.lst (ns.map D.int)), o1, some (.ref a), o3, o4, o5, o6, o7, o8]) ⟨b1, _, _, _, _, _, _, _, rfl⟩ ?_ ?_
    · rintro w e s hw ⟨bs, o1, o3, o4, o5, o6, o7, o8, rfl⟩
      refine ⟨_, rfl, fun N2 hnx2 _ _ _ _ => ?_⟩
      show sSeq _ _ [some (.lst (ns.map D.int)), o1, some (.ref a), some (.int (0 + w)), o4, o5, o6, o7, o8] _ _
      walk_at "bl"
      refine Ld.take_spec bs (by decide) (sm_k (by decide)) fun way S2 y0 y1 b2 _ => ?_
      walk_at "bl"
      refine Ld.thing_spec b2 (by decide) (by decide) fun A S3 hA iA _ b3 => ?_
      walk_at "bl"
      refine Ld.take_spec b3 (by decide) (sm_k (by decide)) fun way2 S4 z0 z1 b4 _ => ?_
      walk_at "bl"
      refine Ld.thing_spec b4 (by decide) (by decide) fun B S5 hB iB _ b5 => ?_
      have jA : TIn 84 A := iA
      have jB : TIn 84 B := iB
      clear iA iB
      walk_at "bl"
      refine Go.ifD (fun h => ?_) fun h => ?_
      · walk_at "bl"
        refine off_spec b5 hA hB jA jB fun t S6 b6 hB' sp => ?_
        walk_at "bl"
        obtain ⟨dis, y1, y2⟩ := sep_all hA hB' sp
        refine apart_law hA hB' fun ρ S7 u7 hρ hl => ?_
        obtain ⟨e1, e2⟩ := law_least hA hB' dis y1 y2 hρ hl
        walk_at "bl"
        refine apart_spec hA hB' ?_
        walk_at "bl"
        refine ne_go e1 ?_
        walk_at "bl"
        refine apart_spec hB' hA ?_
        walk_at "bl"
        refine ne_go e2 ?_
        walk_at "bl"
        exact hnx2 _ _ ⟨b6.up u7, _, _, _, _, _, _, _, rfl⟩
      · have gd : ∀ {v w' : P2}, v ∈ cornL A → w' ∈ cornL B → GoodTh (mvT (.shift (v.1 - w'.1, v.2 - w'.2)) B) := fun {v w'} hv hw' => by
          obtain ⟨a1, a2⟩ := corn_tin jA hv
          obtain ⟨c1, c2⟩ := corn_tin jB hw'
          exact good_mv hB jB (by omega) (by omega)
        walk_at "bl"
        refine len_th ?_
        walk_at "bl"
        have pick : ∀ {m d : Int} {S6 : Sto} {R : DK}, 0 ≤ d → d < m → (m = 2 ∧ lenI A ≠ 2 ∨ m = 1) → (∀ v, v ∈ cornL A → R (pt v) S6) → fIx (thD A) (.int (lenI A - 1 - d)) S6 R := fun {m d S6 R} d0 d1 hm h => ix_corn d0 (by omega) h
        refine kind_ix (fun hk => ?_) (fun hk => ?_) (fun hk => ?_)
        · walk_at "bl"
          refine Ld.take_spec b5 (many := 1) (by decide) (sm_k (by decide)) fun d S6 d0 d1 b6 _ => ?_
          walk_at "bl"
          refine pick d0 d1 (by omega) fun v hv => ?_
          walk_at "bl"
          refine last_ix fun w' hw' => ?_
          walk_at "bl"
          refine lmoved_spec ?_
          walk_at "bl"
          have hB' := gd hv hw'
          obtain ⟨e1, e2⟩ := due_eq hA hB hv hw' rfl hB'
          refine apart_spec hA hB' ?_
          walk_at "bl"
          refine ne_go e1 ?_
          walk_at "bl"
          refine apart_spec hB' hA ?_
          walk_at "bl"
          refine ne_go e2 ?_
          walk_at "bl"
          exact hnx2 _ _ ⟨b6, _, _, _, _, _, _, _, rfl⟩
        · walk_at "bl"
          refine Ld.take_spec b5 (many := 2) (by decide) (sm_k (by decide)) fun d S6 d0 d1 b6 _ => ?_
          walk_at "bl"
          refine pick d0 d1 (by omega) fun v hv => ?_
          walk_at "bl"
          refine last_ix fun w' hw' => ?_
          walk_at "bl"
          refine lmoved_spec ?_
          walk_at "bl"
          have hB' := gd hv hw'
          obtain ⟨e1, e2⟩ := due_eq hA hB hv hw' rfl hB'
          refine apart_spec hA hB' ?_
          walk_at "bl"
          refine ne_go e1 ?_
          walk_at "bl"
          refine apart_spec hB' hA ?_
          walk_at "bl"
          refine ne_go e2 ?_
          walk_at "bl"
          exact hnx2 _ _ ⟨b6, _, _, _, _, _, _, _, rfl⟩
        · walk_at "bl"
          refine Ld.take_spec b5 (many := 2) (by decide) (sm_k (by decide)) fun d S6 d0 d1 b6 _ => ?_
          walk_at "bl"
          refine pick d0 d1 (by omega) fun v hv => ?_
          walk_at "bl"
          refine last_ix fun w' hw' => ?_
          walk_at "bl"
          refine lmoved_spec ?_
          walk_at "bl"
          have hB' := gd hv hw'
          obtain ⟨e1, e2⟩ := due_eq hA hB hv hw' rfl hB'
          refine apart_spec hA hB' ?_
          walk_at "bl"
          refine ne_go e1 ?_
          walk_at "bl"
          refine apart_spec hB' hA ?_
          walk_at "bl"
          refine ne_go e2 ?_
          walk_at "bl"
          exact hnx2 _ _ ⟨b6, _, _, _, _, _, _, _, rfl⟩
    · rintro e s ⟨bs, o1, o3, o4, o5, o6, o7, o8, rfl⟩
      exact hnx _ _ ⟨_, _, _, _, _, _, _, _, rfl⟩
  · rintro e s ⟨o1, o2, o3, o4, o5, o6, o7, o8, rfl⟩
    walk_at "bl"
    rfl
end Ld.Lt.K17

end
namespace Ld.Lt.K17
open PySem PySem.Spec PyProof.Rows L2 Bl Lb Ld
theorem facts {P : Program} {w : World} {K : PySem.W.Frag} {h : Heap} {mg : Str → Option Value} {f : Addr} (X : K.In h) (G : h.Ns mainGlobals mg) (hfa : mg ("law" : Str) = some (.ref f)) (c : He.SaysD fa fn K ∧ bx K = true) :
    ∃ fd : FuncData, (∀ (s : Shared) (v : Value), BindsTo s fd ⟨[v], []⟩ [("_law_script", v)]) ∧ ∀ base : Heap, K.In base → base.Ns mainGlobals mg → FnOk P w K mg base (L2.CX P w) 8 f fd ["_law_script"] (spLaw K 63) := by
  have T : Tp fa fn bx K mg := Tp.mk' X G c
  obtain ⟨fd, F⟩ := T.sy.def_ 52 (d := d_law) rfl
  have e := hfa.symm.trans (T.glo 63 (x := "law"))
  cases e
  refine ⟨fd, fun s v => FunD.bindsA (ps := ["_law_script"]) F (fun _ _ _ _ _ _ us hl => match us, hl with | [_], _ => rfl) s [v] rfl, fun base _ _ => ?_⟩
  have hok : FnOk P w K mg base (L2.CX P w) 8 _ fd ["_law_script"] (LSp K 1 m_law) := ok_law T F
  exact hok.imp (law_sp (mo_law (P := P) (w := w) (base := base) T) law_pure)
end Ld.Lt.K17
open PySem PySem.W PyProof.Rows
set_option maxHeartbeats 0 in
theorem PySem.Challenge.cw_bendlands_k17_things_apart_holds : PySem.Challenge.rw_bendlands_k17_things_apart.Holds := by
  w_on; o_law
  refine HandSHeadRun.head_any (r := OpenLaw.row PySem.Challenge.rw_bendlands_k17_things_apart) (q := view (OpenLaw.row PySem.Challenge.rw_bendlands_k17_things_apart).prog [62]) (H := Ld.Lt.K17.hk) (ob := Bl.obX 5 Ld.Lt.K17.fa Ld.Lt.K17.fn Ld.Lt.K17.bx) (M := 6000) (loose := Ld.Lt.K17.names) (d := HandSHeadRun.topDef (OpenLaw.row PySem.Challenge.rw_bendlands_k17_things_apart).prog 62) (kwd := []) Bl.obX_eq
    (by kernel_rfl) (fun s => by kernel_rfl) Ld.Lt.K17.run (by kernel_rfl) (by kernel_rfl) (by kernel_rfl) (by rfl) (by first | assumption | decide +kernel) (by decide +kernel) ⟨rfl, rfl, rfl, rfl, rfl, by decide +kernel⟩ ?hw ?hc
  case hw => w_witness2
  case hc =>
    refine Bl.walk_ofX (l := PySem.Challenge.rw_bendlands_k17_things_apart) (n := 63) (k := 8) (x := "_law_script") rfl (by decide) (by kernel_rfl) ⟨rfl, by decide, by decide⟩ ?F
    case F =>
      intro w mg fa h Y G hmg0
      obtain ⟨K, KX, c⟩ := Y
      have hmg : mg ("law" : PySem.Str) = some (.ref fa) := by
        have e : (HandSHeadRun.topDef (OpenLaw.row PySem.Challenge.rw_bendlands_k17_things_apart).prog 62).name = ("law" : PySem.Str) := by kernel_rfl
        rw [← e]
        exact hmg0
      obtain ⟨fd, hb, hF⟩ := Ld.Lt.K17.facts (P := (PySem.Challenge.rw_bendlands_k17_things_apart).prog) (w := w) KX G hmg c
      exact ⟨K, fd, KX, hb, hF⟩
