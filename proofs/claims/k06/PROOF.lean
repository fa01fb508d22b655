import PyProof.Rows.All
import HandS.ForMost
import HandS.ForExc
import HandS.Walk
import HandS.Wide
import HandS.IsInst
import HandS.Defaults
import HandS.Rev
import HandS.Zip
import HandS.TupAny
import HandS.Style
import HandS.Flow
import HandS.Deep
import HandS.TryOnly
import HandS.WordsExc
import HandS.MakeKwOnly
import HandS.WideBits
import HandS.HeadHook2
import HandS.HeadEnd
import HandS.Head0
import HandS.Head1
import HandS.Head2
import HandS.ExcIs
import PyProof.CollectIter
import PyProof.WalksMore
import HandS.RevTup
import KE.KUnpack
import KE.GoesEnum
import KE.GoesMore
import HandS.Dict
import PySem.Challenge.RW_bendlands_k06_roots_in_one_row
import HandS.SetFor
import KE.KRevSl
import HandS.More
import HandS.TupMul
import HandS.Zip0
import KE.GoesZip
import KE.GoesEnumKw
set_option Elab.async false
set_option linter.all false
set_option maxRecDepth 100000
set_option maxHeartbeats 4000000
/-! Data without addresses: tuples by their items, lists that are grown by their address; each construct of the text as a transformer over them. -/
namespace Bl
open PySem PySem.Spec PyProof.Rows L2

inductive D where
  | non | bl (b : Bool) | int (i : Int) | str (x : Str)
  | tup (ds : List D) | lst (ds : List D)
  | ref (a : Addr) | obj (a : Addr)

abbrev Sto := Addr → Option (List D)
def sup (S : Sto) (a : Addr) (ds : List D) : Sto := fun b => if b = a then some ds else S b
def sdel (S : Sto) (a : Addr) : Sto := fun b => if b = a then none else S b
theorem sup_same {S : Sto} {a : Addr} {ds : List D} : sup S a ds a = some ds := if_pos rfl
theorem sup_ne {S : Sto} {a b : Addr} {ds : List D} (h : b ≠ a) : sup S a ds b = S b := if_neg h
theorem sdel_same {S : Sto} {a : Addr} : sdel S a a = none := if_pos rfl
theorem sdel_ne {S : Sto} {a b : Addr} (h : b ≠ a) : sdel S a b = S b := if_neg h

/-- the written part, and the lists that are being made out of sight -/
structure Kz where
  K : PySem.W.Frag
  Z : Addr → Prop
/-- a list of the written part -/
def KL (K : PySem.W.Frag) (a : Addr) (xs : List V) : Prop :=
  ∃ (o : Obj) (its : Array Value) (n : Nat), K.lookup a = some o ∧ o.cls = .type "list" ∧ o.dict = none ∧ o.data = .seq its n ∧ its.size ≤ sizeLine ∧ Vals xs its.toList

mutual
inductive Rp (K : Kz) (S : Sto) (H : Hp) : D → V → Prop
  | non : Rp K S H .non .non
  | bl (b : Bool) : Rp K S H (.bl b) (.bl b)
  | int (i : Int) : Rp K S H (.int i) (.int i)
  | str (x : Str) : Rp K S H (.str x) (.str x)
  | tup {a : Addr} {vs : List V} {ds : List D} : SqT K.K H a vs → RpL K S H ds vs → Rp K S H (.tup ds) (.ref a)
  | lst {a : Addr} {vs : List V} {ds : List D} : Rd H a (.lst vs) → S a = none → ¬ K.Z a → RpL K S H ds vs → Rp K S H (.lst ds) (.ref a)
  | lstK {a : Addr} {vs : List V} {ds : List D} : KL K.K a vs → RpL K S H ds vs → Rp K S H (.lst ds) (.ref a)
  | ref (a : Addr) : Rp K S H (.ref a) (.ref a)
  | obj (a : Addr) : Rp K S H (.obj a) (.ref a)
inductive RpL (K : Kz) (S : Sto) (H : Hp) : List D → List V → Prop
  | nil : RpL K S H [] []
  | cons {d : D} {v : V} {ds : List D} {vs : List V} : Rp K S H d v → RpL K S H ds vs → RpL K S H (d :: ds) (v :: vs)
end

/-- the lists that are grown stand in the heap -/
structure RS (K : Kz) (S : Sto) (H : Hp) : Prop where
  at_ : ∀ a ds, S a = some ds → ∃ vs, H a = some (.lst vs) ∧ RpL K S H ds vs
  hid : ∀ b, K.Z b → S b = none ∧ ∃ vs, H b = some (.lst vs)
/-- what else stands, stands on -/
def Step (S : Sto) (H : Hp) (S' : Sto) (H' : Hp) : Prop := ∀ b o, H b = some o → S b = none → S' b = none ∧ H' b = some o
theorem Step.refl (S : Sto) (H : Hp) : Step S H S H := fun _ _ h n => ⟨n, h⟩
theorem Step.trans {S S1 S2 : Sto} {H H1 H2 : Hp} (a : Step S H S1 H1) (b : Step S1 H1 S2 H2) : Step S H S2 H2 := fun c o h n => by
  obtain ⟨n1, h1⟩ := a c o h n
  exact b c o h1 n1

theorem RS.off {K : Kz} {S : Sto} {H : Hp} {a : Addr} {o : HO} (rs : RS K S H) (h : H a = some o) (hn : ∀ vs, o ≠ .lst vs) : S a = none := by
  cases e : S a with
  | none => rfl
  | some ds =>
    obtain ⟨vs, q, _⟩ := rs.at_ a ds e
    rw [h] at q
    exact absurd (Option.some.inj q) (hn vs)
theorem RS.free {K : Kz} {S : Sto} {H : Hp} {a : Addr} (rs : RS K S H) (h : H a = none) : S a = none := by
  cases e : S a with
  | none => rfl
  | some ds =>
    obtain ⟨vs, q, _⟩ := rs.at_ a ds e
    rw [h] at q
    cases q
theorem Step.rdT {K : Kz} {S S' : Sto} {H H' : Hp} {a : Addr} {xs : List V} (st : Step S H S' H') (rs : RS K S H) (h : Rd H a (.tup xs)) : Rd H' a (.tup xs) := by
  rcases h with h | ⟨o, h⟩
  · exact .inl (st a _ h (rs.off h fun vs z => by cases z)).2
  · exact .inr ⟨o, (st a _ h (rs.off h fun vs z => by cases z)).2⟩
theorem Step.sqT {K : Kz} {S S' : Sto} {H H' : Hp} {a : Addr} {xs : List V} (st : Step S H S' H') (rs : RS K S H) (h : SqT K.K H a xs) : SqT K.K H' a xs := by
  rcases h with h | h
  · exact .inl (st.rdT rs h)
  · exact .inr h
theorem Step.rdL {S S' : Sto} {H H' : Hp} {a : Addr} {xs : List V} (st : Step S H S' H') (h : Rd H a (.lst xs)) (n : S a = none) : Rd H' a (.lst xs) ∧ S' a = none := by
  rcases h with h | ⟨o, h⟩
  · obtain ⟨n1, h1⟩ := st a _ h n
    exact ⟨.inl h1, n1⟩
  · obtain ⟨n1, h1⟩ := st a _ h n
    exact ⟨.inr ⟨o, h1⟩, n1⟩
section
variable {K : Kz} {S S' : Sto} {H H' : Hp}
mutual
theorem Rp.step (st : Step S H S' H') (rs : RS K S H) : ∀ (d : D) (v : V), Rp K S H d v → Rp K S' H' d v
  | .non, _, h => by cases h; exact .non
  | .bl b, _, h => by cases h; exact .bl b
  | .int i, _, h => by cases h; exact .int i
  | .str x, _, h => by cases h; exact .str x
  | .tup ds, _, h => by
    cases h with
    | tup hs ha => exact .tup (st.sqT rs hs) (RpL.step st rs ds _ ha)
  | .lst ds, _, h => by
    cases h with
    | lst hs hn hz ha => exact .lst (st.rdL hs hn).1 (st.rdL hs hn).2 hz (RpL.step st rs ds _ ha)
    | lstK hs ha => exact .lstK hs (RpL.step st rs ds _ ha)
  | .ref a, _, h => by cases h; exact .ref a
  | .obj a, _, h => by cases h; exact .obj a
theorem RpL.step (st : Step S H S' H') (rs : RS K S H) : ∀ (ds : List D) (vs : List V), RpL K S H ds vs → RpL K S' H' ds vs
  | [], _, h => by cases h; exact .nil
  | d :: ds, _, h => by
    cases h with
    | cons h1 h2 => exact .cons (Rp.step st rs d _ h1) (RpL.step st rs ds _ h2)
end
theorem RpL.length : ∀ {ds : List D} {vs : List V}, RpL K S H ds vs → ds.length = vs.length
  | [], _, h => by cases h; rfl
  | _ :: _, _, h => by
    cases h with
    | cons _ h2 => exact congrArg Nat.succ (RpL.length h2)
theorem RpL.get : ∀ {ds : List D} {vs : List V} {i : Nat} {d : D}, RpL K S H ds vs → ds[i]? = some d → ∃ v, vs[i]? = some v ∧ Rp K S H d v
  | [], _, i, d, _, e => by simp at e
  | d0 :: ds, _, i, d, h, e => by
    cases h with
    | cons h1 h2 =>
      cases i with
      | zero => simp at e; subst e; exact ⟨_, rfl, h1⟩
      | succ i =>
        obtain ⟨v, e1, e2⟩ := RpL.get (i := i) (d := d) h2 (by simpa using e)
        exact ⟨v, by simpa using e1, e2⟩
theorem RpL.get' : ∀ {ds : List D} {vs : List V} {i : Nat} {v : V}, RpL K S H ds vs → vs[i]? = some v → ∃ d, ds[i]? = some d ∧ Rp K S H d v
  | [], _, i, d, h, e => by cases h; simp at e
  | d0 :: ds, _, i, v, h, e => by
    cases h with
    | cons h1 h2 =>
      cases i with
      | zero => simp at e; subst e; exact ⟨_, rfl, h1⟩
      | succ i =>
        obtain ⟨d, e1, e2⟩ := RpL.get' (i := i) (v := v) h2 (by simpa using e)
        exact ⟨d, by simpa using e1, e2⟩
theorem RpL.append : ∀ {ds es : List D} {vs ws : List V}, RpL K S H ds vs → RpL K S H es ws → RpL K S H (ds ++ es) (vs ++ ws)
  | [], _, _, _, h, h2 => by cases h; exact h2
  | _ :: _, _, _, _, h, h2 => by
    cases h with
    | cons p q => exact .cons p (RpL.append q h2)
theorem RpL.take : ∀ {ds : List D} {vs : List V} (n : Nat), RpL K S H ds vs → RpL K S H (ds.take n) (vs.take n)
  | _, _, 0, _ => by simp; exact .nil
  | [], _, n + 1, h => by cases h; exact .nil
  | d :: ds, _, n + 1, h => by
    cases h with
    | cons p q => exact .cons p (RpL.take n q)
theorem RpL.drop : ∀ {ds : List D} {vs : List V} (n : Nat), RpL K S H ds vs → RpL K S H (ds.drop n) (vs.drop n)
  | _, _, 0, h => h
  | [], _, n + 1, h => by cases h; exact .nil
  | d :: ds, _, n + 1, h => by
    cases h with
    | cons p q => exact RpL.drop n q
theorem RpL.set : ∀ {ds : List D} {vs : List V} {d : D} {v : V} (i : Nat), RpL K S H ds vs → Rp K S H d v → RpL K S H (ds.set i d) (vs.set i v)
  | [], _, d, v, i, h, h1 => by cases h; exact .nil
  | _ :: _, _, d, v, i, h, h1 => by
    cases h with
    | cons p q =>
      cases i with
      | zero => exact .cons h1 q
      | succ i => exact .cons p (RpL.set i q h1)
theorem RpL.ints {ns : List Int} : RpL K S H (ns.map D.int) (ns.map V.int) := by
  induction ns with
  | nil => exact .nil
  | cons n r ih => exact .cons (.int n) ih
end

/-! ### the slots -/
abbrev Ev := List (Option D)
structure RE (K : Kz) (S : Sto) (H : Hp) (env : Ev) (σ : L2.St) : Prop where
  len : env.length = σ.length
  at_ : ∀ (i : Nat) (d : D), env[i]? = some (some d) → ∃ v, σ[i]? = some (some v) ∧ Rp K S H d v
section
variable {K : Kz} {S S' : Sto} {H H' : Hp} {env : Ev} {σ : L2.St}
theorem RE.step (st : Step S H S' H') (rs : RS K S H) (re : RE K S H env σ) : RE K S' H' env σ :=
  ⟨re.len, fun i d e => by
    obtain ⟨v, e1, r⟩ := re.at_ i d e
    exact ⟨v, e1, Rp.step st rs d v r⟩⟩
theorem RE.set (re : RE K S H env σ) {d : D} {v : V} (r : Rp K S H d v) (i : Nat) : RE K S H (env.set i (some d)) (σ.set i (some v)) := by
  refine ⟨by rw [List.length_set, List.length_set]; exact re.len, fun j e h => ?_⟩
  by_cases hj : i = j
  · subst hj
    by_cases hl : i < env.length
    · rw [List.getElem?_set_self hl] at h
      cases h
      exact ⟨v, List.getElem?_set_self (by rw [← re.len]; exact hl), r⟩
    · rw [List.getElem?_eq_none (by rw [List.length_set]; omega)] at h
      cases h
  · rw [List.getElem?_set_ne hj] at h
    rw [List.getElem?_set_ne hj]
    exact re.at_ j e h
theorem RE.unset (re : RE K S H env σ) (i : Nat) : RE K S H (env.set i none) (σ.set i none) := by
  refine ⟨by rw [List.length_set, List.length_set]; exact re.len, fun j e h => ?_⟩
  by_cases hj : i = j
  · subst hj
    by_cases hl : i < env.length
    · rw [List.getElem?_set_self hl] at h
      cases h
    · rw [List.getElem?_eq_none (by rw [List.length_set]; omega)] at h
      cases h
  · rw [List.getElem?_set_ne hj] at h
    rw [List.getElem?_set_ne hj]
    exact re.at_ j e h
theorem RE.start {ds : List D} {vs : List V} (r : RpL K S H ds vs) (n : Nat) : RE K S H (ds.map some ++ List.replicate n none) (vs.map some ++ List.replicate n none) := by
  refine ⟨by simp [r.length], fun i d h => ?_⟩
  by_cases hi : i < ds.length
  · rw [List.getElem?_append_left (by simpa using hi), List.getElem?_map] at h
    cases e : ds[i]? with
    | none => rw [e] at h; cases h
    | some x =>
      rw [e] at h
      cases h
      obtain ⟨v, e1, r1⟩ := r.get e
      have hv : i < vs.length := by rw [← r.length]; exact hi
      exact ⟨v, by rw [List.getElem?_append_left (by simpa using hv), List.getElem?_map, e1]; rfl, r1⟩
  · rw [List.getElem?_append_right (by simpa using hi), List.getElem?_replicate] at h
    split at h <;> cases h
end

/-! ### an exception -/
structure Xc where
  nm : Str
  fs : List (Str × D)
def RX (K : Kz) (S : Sto) (H : Hp) (x : Xc) (c : Value) (dx : Option Addr) : Prop :=
  (∃ C, PySem.W.nsIn K.K mainGlobals x.nm = some (some (.ref C)) ∧ c = .ref C) ∧ match dx with
    | none => x.fs = []
    | some a => x.fs ≠ [] ∧ ∃ fv : List (Str × V), H a = some (.xd fv) ∧ fv.map (·.1) = x.fs.map (·.1) ∧ RpL K S H (x.fs.map (·.2)) (fv.map (·.2))

/-! ### transformers -/
abbrev DK := D → Sto → Prop
abbrev EK := Xc → Sto → Prop
abbrev TX (α : Type) := Ev → Sto → (α → Sto → Prop) → EK → Prop
abbrev TEd := TX D
abbrev TTd := TX Bool
abbrev TAd := TX (List D)
structure Nd where
  nx : Ev → Sto → Prop
  rt : DK
  bk : Ev → Sto → Prop
  ct : Ev → Sto → Prop
  ex : Xc → Ev → Sto → Prop
abbrev TSd := Ev → Sto → Nd → Prop
abbrev TFd := List D → Sto → DK → EK → Prop
def MoE {α : Type} (t : TX α) : Prop := ∀ env S (Q Q' : α → Sto → Prop) (E E' : EK), (∀ d S, Q d S → Q' d S) → (∀ x S, E x S → E' x S) → t env S Q E → t env S Q' E'
structure NdLe (A B : Nd) : Prop where
  nx : ∀ e S, A.nx e S → B.nx e S
  rt : ∀ d S, A.rt d S → B.rt d S
  bk : ∀ e S, A.bk e S → B.bk e S
  ct : ∀ e S, A.ct e S → B.ct e S
  ex : ∀ x e S, A.ex x e S → B.ex x e S
def MoS (t : TSd) : Prop := ∀ env S (A B : Nd), NdLe A B → t env S A → t env S B
def MoF (f : TFd) : Prop := ∀ ds S (Q Q' : DK) (E E' : EK), (∀ d S, Q d S → Q' d S) → (∀ x S, E x S → E' x S) → f ds S Q E → f ds S Q' E'

structure Aft (K : Kz) (S : Sto) (H : Hp) (S' : Sto) (H' : Hp) : Prop where
  st : Step S H S' H'
  rs : RS K S' H'
theorem Aft.trans {K : Kz} {S S1 S2 : Sto} {H H1 H2 : Hp} (a : Aft K S H S1 H1) (b : Aft K S1 H1 S2 H2) : Aft K S H S2 H2 := ⟨a.st.trans b.st, b.rs⟩
theorem Aft.refl {K : Kz} {S : Sto} {H : Hp} (rs : RS K S H) : Aft K S H S H := ⟨Step.refl S H, rs⟩

/-- what is wanted of an exception -/
def PX (K : Kz) (S : Sto) (H : Hp) (σ : L2.St) (W : WX) : EK := fun x S' => ∀ c dx H', Aft K S H S' H' → RX K S' H' x c dx → W c dx σ H'
def LE (K : PySem.W.Frag) (W : WX) (t : TEd) : TE := fun σ H Q => ∃ Z env S, RE ⟨K, Z⟩ S H env σ ∧ RS ⟨K, Z⟩ S H ∧ t env S (fun d S' => ∀ v H', Aft ⟨K, Z⟩ S H S' H' → Rp ⟨K, Z⟩ S' H' d v → Q v H') (PX ⟨K, Z⟩ S H σ W)
def LT (K : PySem.W.Frag) (W : WX) (t : TTd) : TT := fun σ H Q => ∃ Z env S, RE ⟨K, Z⟩ S H env σ ∧ RS ⟨K, Z⟩ S H ∧ t env S (fun b S' => ∀ H', Aft ⟨K, Z⟩ S H S' H' → Q b H') (PX ⟨K, Z⟩ S H σ W)
def LA (K : PySem.W.Frag) (W : WX) (t : TAd) : TA := fun σ H Q => ∃ Z env S, RE ⟨K, Z⟩ S H env σ ∧ RS ⟨K, Z⟩ S H ∧ t env S (fun ds S' => ∀ vs H', Aft ⟨K, Z⟩ S H S' H' → RpL ⟨K, Z⟩ S' H' ds vs → Q vs H') (PX ⟨K, Z⟩ S H σ W)
def LN (K : Kz) (S : Sto) (H : Hp) (W : WX) (N : Ends) : Nd where
  nx := fun e S' => ∀ σ' H', Aft K S H S' H' → RE K S' H' e σ' → N.nx σ' H'
  rt := fun d S' => ∀ v H', Aft K S H S' H' → Rp K S' H' d v → N.rt v H'
  bk := fun e S' => ∀ σ' H', Aft K S H S' H' → RE K S' H' e σ' → N.bk σ' H'
  ct := fun e S' => ∀ σ' H', Aft K S H S' H' → RE K S' H' e σ' → N.ct σ' H'
  ex := fun x e S' => ∀ c dx σ' H', Aft K S H S' H' → RE K S' H' e σ' → RX K S' H' x c dx → W c dx σ' H'
def LS (K : PySem.W.Frag) (W : WX) (t : TSd) : TS := fun N σ H => ∃ Z env S, RE ⟨K, Z⟩ S H env σ ∧ RS ⟨K, Z⟩ S H ∧ t env S (LN ⟨K, Z⟩ S H W N)

structure JE (X : Cx) (W : WX) (e : Expr) (t : TEd) : Prop where
  pe : PE X e (LE X.K W t)
  mo : MoE t
structure JT (X : Cx) (W : WX) (e : Expr) (t : TTd) : Prop where
  pt : PT X e (LT X.K W t)
  mo : MoE t
structure JW (X : Cx) (W : WX) (e : Expr) (t : TTd) : Prop where
  pw : PW X e (LT X.K W t)
  mo : MoE t
structure JA (X : Cx) (W : WX) (es : List Expr) (t : TAd) : Prop where
  pa : PA X es (LA X.K W t)
  mo : MoE t
structure JS (X : Cx) (W : WX) (st : Stmt) (t : TSd) : Prop where
  ps : PS X st (LS X.K W t)
  mo : MoS t
structure JB (X : Cx) (W : WX) (st : List Stmt) (t : TSd) : Prop where
  ps : PSs X st (LS X.K W t)
  mo : MoS t

theorem PE.imp {X : Cx} {e : Expr} {t u : TE} (h : PE X e t) (k : ∀ σ H Q, u σ H Q → t σ H Q) : PE X e u := ⟨fun pins s σ H Q I q => h.run pins s σ H Q I (k σ H Q q)⟩
theorem PT.imp {X : Cx} {e : Expr} {t u : TT} (h : PT X e t) (k : ∀ σ H Q, u σ H Q → t σ H Q) : PT X e u := ⟨fun pins s σ H Q I q => h.run pins s σ H Q I (k σ H Q q)⟩
theorem PW.imp {X : Cx} {e : Expr} {t u : TT} (h : PW X e t) (k : ∀ σ H Q, u σ H Q → t σ H Q) : PW X e u := ⟨fun wh pins s σ H Q I q => h.run wh pins s σ H Q I (k σ H Q q)⟩
theorem PA.imp {X : Cx} {es : List Expr} {t u : TA} (h : PA X es t) (k : ∀ σ H Q, u σ H Q → t σ H Q) : PA X es u := ⟨fun p pins s σ H Q I q => h.run p pins s σ H Q I (k σ H Q q)⟩
theorem PS.imp {X : Cx} {st : Stmt} {t u : TS} (h : PS X st t) (k : ∀ N σ H, u N σ H → t N σ H) : PS X st u := ⟨fun pins s σ H N I q => h.run pins s σ H N I (k N σ H q)⟩
theorem PSs.imp {X : Cx} {st : List Stmt} {t u : TS} (h : PSs X st t) (k : ∀ N σ H, u N σ H → t N σ H) : PSs X st u := ⟨fun pins s σ H N I q => h.run pins s σ H N I (k N σ H q)⟩

/-! ### the lifted forms, from a state -/
section
variable {K : Kz} {W : WX} {S : Sto} {H : Hp} {env : Ev} {σ : L2.St}
theorem LE.of {t : TEd} (mo : MoE t) (re : RE K S H env σ) (rs : RS K S H) {C : DK} {E : EK} {R : VK} (h : t env S C E)
    (hc : ∀ d S1 v H1, C d S1 → Aft K S H S1 H1 → Rp K S1 H1 d v → R v H1) (he : ∀ x S1 c dx H1, E x S1 → Aft K S H S1 H1 → RX K S1 H1 x c dx → W c dx σ H1) : LE K.K W t σ H R :=
  ⟨K.Z, env, S, re, rs, mo _ _ _ _ _ _ (fun d S1 q v H1 a r => hc d S1 v H1 q a r) (fun x S1 q c dx H1 a r => he x S1 c dx H1 q a r) h⟩
theorem LT.of {t : TTd} (mo : MoE t) (re : RE K S H env σ) (rs : RS K S H) {C : Bool → Sto → Prop} {E : EK} {R : Bool → Hp → Prop} (h : t env S C E)
    (hc : ∀ d S1 H1, C d S1 → Aft K S H S1 H1 → R d H1) (he : ∀ x S1 c dx H1, E x S1 → Aft K S H S1 H1 → RX K S1 H1 x c dx → W c dx σ H1) : LT K.K W t σ H R :=
  ⟨K.Z, env, S, re, rs, mo _ _ _ _ _ _ (fun d S1 q H1 a => hc d S1 H1 q a) (fun x S1 q c dx H1 a r => he x S1 c dx H1 q a r) h⟩
theorem LA.of {t : TAd} (mo : MoE t) (re : RE K S H env σ) (rs : RS K S H) {C : List D → Sto → Prop} {E : EK} {R : List V → Hp → Prop} (h : t env S C E)
    (hc : ∀ d S1 v H1, C d S1 → Aft K S H S1 H1 → RpL K S1 H1 d v → R v H1) (he : ∀ x S1 c dx H1, E x S1 → Aft K S H S1 H1 → RX K S1 H1 x c dx → W c dx σ H1) : LA K.K W t σ H R :=
  ⟨K.Z, env, S, re, rs, mo _ _ _ _ _ _ (fun d S1 q v H1 a r => hc d S1 v H1 q a r) (fun x S1 q c dx H1 a r => he x S1 c dx H1 q a r) h⟩
theorem LS.of {t : TSd} (mo : MoS t) (re : RE K S H env σ) (rs : RS K S H) {N : Nd} {M : Ends} (h : t env S N) (hl : NdLe N (LN K S H W M)) : LS K.K W t M σ H :=
  ⟨K.Z, env, S, re, rs, mo _ _ _ _ hl h⟩
/-- exceptions behind a step -/
theorem PX.after {S1 : Sto} {H1 : Hp} (a : Aft K S H S1 H1) {x : Xc} {S2 : Sto} (h : PX K S H σ W x S2) : ∀ c dx H2, Aft K S1 H1 S2 H2 → RX K S2 H2 x c dx → W c dx σ H2 :=
  fun c dx H2 b r => h c dx H2 (a.trans b) r
theorem LN.after {S1 : Sto} {H1 : Hp} (a : Aft K S H S1 H1) (N : Ends) : NdLe (LN K S H W N) (LN K S1 H1 W N) :=
  ⟨fun e S2 h σ' H' b r => h σ' H' (a.trans b) r, fun d S2 h v H' b r => h v H' (a.trans b) r, fun e S2 h σ' H' b r => h σ' H' (a.trans b) r,
   fun e S2 h σ' H' b r => h σ' H' (a.trans b) r, fun x e S2 h c dx σ' H' b r q => h c dx σ' H' (a.trans b) r q⟩
end

/-! ### a list that is made out of sight -/
abbrev Kz.more (K : Kz) (p : Addr) : Kz := ⟨K.K, fun b => K.Z b ∨ b = p⟩
section
variable {K : Kz} {S : Sto} {H : Hp} {p : Addr}
mutual
theorem Rp.hide {xs : List V} (hp : H p = none) : ∀ (d : D) (v : V), Rp K S H d v → Rp (K.more p) S (upd H p (.lst xs)) d v
  | .non, _, h => by cases h; exact .non
  | .bl b, _, h => by cases h; exact .bl b
  | .int i, _, h => by cases h; exact .int i
  | .str x, _, h => by cases h; exact .str x
  | .tup ds, _, h => by
    cases h with
    | tup hs ha =>
      refine .tup ?_ (RpL.hide hp ds _ ha)
      rcases hs with (h | ⟨o, h⟩) | h
      · exact .inl (.inl (by rw [upd_ne (ne_of_none h hp)]; exact h))
      · exact .inl (.inr ⟨o, by rw [upd_ne (ne_of_none h hp)]; exact h⟩)
      · exact .inr h
  | .lst ds, _, h => by
    cases h with
    | lst hs hn hz ha =>
      rename_i a vs
      have ne : a ≠ p := by
        rcases hs with h | ⟨o, h⟩
        · exact ne_of_none h hp
        · exact ne_of_none h hp
      refine .lst ?_ hn (fun z => z.elim hz ne) (RpL.hide hp ds _ ha)
      rcases hs with h | ⟨o, h⟩
      · exact .inl (by rw [upd_ne ne]; exact h)
      · exact .inr ⟨o, by rw [upd_ne ne]; exact h⟩
    | lstK hs ha => exact .lstK hs (RpL.hide hp ds _ ha)
  | .ref a, _, h => by cases h; exact .ref a
  | .obj a, _, h => by cases h; exact .obj a
theorem RpL.hide {xs : List V} (hp : H p = none) : ∀ (ds : List D) (vs : List V), RpL K S H ds vs → RpL (K.more p) S (upd H p (.lst xs)) ds vs
  | [], _, h => by cases h; exact .nil
  | d :: ds, _, h => by
    cases h with
    | cons h1 h2 => exact .cons (Rp.hide hp d _ h1) (RpL.hide hp ds _ h2)
end
mutual
/-- the hidden list is written -/
theorem Rp.grow {xs ys : List V} (hp : H p = some (.lst ys)) : ∀ (d : D) (v : V), Rp (K.more p) S H d v → Rp (K.more p) S (upd H p (.lst xs)) d v
  | .non, _, h => by cases h; exact .non
  | .bl b, _, h => by cases h; exact .bl b
  | .int i, _, h => by cases h; exact .int i
  | .str x, _, h => by cases h; exact .str x
  | .tup ds, _, h => by
    cases h with
    | tup hs ha =>
      rename_i a vs
      refine .tup ?_ (RpL.grow hp ds _ ha)
      rcases hs with (h | ⟨o, h⟩) | h
      · exact .inl (.inl (by rw [upd_ne (ne_of h hp (by intro z; cases z))]; exact h))
      · exact .inl (.inr ⟨o, by rw [upd_ne (ne_of h hp (by intro z; cases z))]; exact h⟩)
      · exact .inr h
  | .lst ds, _, h => by
    cases h with
    | lst hs hn hz ha =>
      rename_i a vs
      have ne : a ≠ p := fun z => hz (.inr z)
      refine .lst ?_ hn hz (RpL.grow hp ds _ ha)
      rcases hs with h | ⟨o, h⟩
      · exact .inl (by rw [upd_ne ne]; exact h)
      · exact .inr ⟨o, by rw [upd_ne ne]; exact h⟩
    | lstK hs ha => exact .lstK hs (RpL.grow hp ds _ ha)
  | .ref a, _, h => by cases h; exact .ref a
  | .obj a, _, h => by cases h; exact .obj a
theorem RpL.grow {xs ys : List V} (hp : H p = some (.lst ys)) : ∀ (ds : List D) (vs : List V), RpL (K.more p) S H ds vs → RpL (K.more p) S (upd H p (.lst xs)) ds vs
  | [], _, h => by cases h; exact .nil
  | d :: ds, _, h => by
    cases h with
    | cons h1 h2 => exact .cons (Rp.grow hp d _ h1) (RpL.grow hp ds _ h2)
end
mutual
theorem Rp.show_ : ∀ (d : D) (v : V), Rp (K.more p) S H d v → Rp K S H d v
  | .non, _, h => by cases h; exact .non
  | .bl b, _, h => by cases h; exact .bl b
  | .int i, _, h => by cases h; exact .int i
  | .str x, _, h => by cases h; exact .str x
  | .tup ds, _, h => by
    cases h with
    | tup hs ha => exact .tup hs (RpL.show_ ds _ ha)
  | .lst ds, _, h => by
    cases h with
    | lst hs hn hz ha => exact .lst hs hn (fun z => hz (.inl z)) (RpL.show_ ds _ ha)
    | lstK hs ha => exact .lstK hs (RpL.show_ ds _ ha)
  | .ref a, _, h => by cases h; exact .ref a
  | .obj a, _, h => by cases h; exact .obj a
theorem RpL.show_ : ∀ (ds : List D) (vs : List V), RpL (K.more p) S H ds vs → RpL K S H ds vs
  | [], _, h => by cases h; exact .nil
  | d :: ds, _, h => by
    cases h with
    | cons h1 h2 => exact .cons (Rp.show_ d _ h1) (RpL.show_ ds _ h2)
end
mutual
/-- the list is told -/
theorem Rp.unhide {es : List D} : ∀ (d : D) (v : V), Rp (K.more p) S H d v → Rp K (sup S p es) H d v
  | .non, _, h => by cases h; exact .non
  | .bl b, _, h => by cases h; exact .bl b
  | .int i, _, h => by cases h; exact .int i
  | .str x, _, h => by cases h; exact .str x
  | .tup ds, _, h => by
    cases h with
    | tup hs ha => exact .tup hs (RpL.unhide ds _ ha)
  | .lst ds, _, h => by
    cases h with
    | lst hs hn hz ha => exact .lst hs (by rw [sup_ne fun z => hz (.inr z)]; exact hn) (fun z => hz (.inl z)) (RpL.unhide ds _ ha)
    | lstK hs ha => exact .lstK hs (RpL.unhide ds _ ha)
  | .ref a, _, h => by cases h; exact .ref a
  | .obj a, _, h => by cases h; exact .obj a
theorem RpL.unhide {es : List D} : ∀ (ds : List D) (vs : List V), RpL (K.more p) S H ds vs → RpL K (sup S p es) H ds vs
  | [], _, h => by cases h; exact .nil
  | d :: ds, _, h => by
    cases h with
    | cons h1 h2 => exact .cons (Rp.unhide d _ h1) (RpL.unhide ds _ h2)
end
theorem RS.hide {xs : List V} (rs : RS K S H) (hp : H p = none) : RS (K.more p) S (upd H p (.lst xs)) := by
  refine ⟨fun a ds e => ?_, fun b hb => ?_⟩
  · obtain ⟨vs, q, r⟩ := rs.at_ a ds e
    exact ⟨vs, by rw [upd_ne (ne_of_none q hp)]; exact q, RpL.hide hp _ _ r⟩
  · rcases hb with hb | rfl
    · obtain ⟨n, vs, q⟩ := rs.hid b hb
      exact ⟨n, vs, by rw [upd_ne (ne_of_none q hp)]; exact q⟩
    · exact ⟨rs.free hp, xs, upd_same⟩
theorem RS.grow {xs ys : List V} (rs : RS (K.more p) S H) (hp : H p = some (.lst ys)) : RS (K.more p) S (upd H p (.lst xs)) := by
  have np : S p = none := (rs.hid p (.inr rfl)).1
  refine ⟨fun a ds e => ?_, fun b hb => ?_⟩
  · obtain ⟨vs, q, r⟩ := rs.at_ a ds e
    have ne : a ≠ p := fun z => by rw [z, np] at e; cases e
    exact ⟨vs, by rw [upd_ne ne]; exact q, RpL.grow hp _ _ r⟩
  · obtain ⟨n, vs, q⟩ := rs.hid b hb
    by_cases hbp : b = p
    · subst hbp
      exact ⟨n, xs, upd_same⟩
    · exact ⟨n, vs, by rw [upd_ne hbp]; exact q⟩
theorem RS.show_ (rs : RS (K.more p) S H) : RS K S H := by
  refine ⟨fun a ds e => ?_, fun b hb => rs.hid b (.inl hb)⟩
  obtain ⟨vs, q, r⟩ := rs.at_ a ds e
  exact ⟨vs, q, RpL.show_ _ _ r⟩
theorem Rp.made {ds : List D} {vs : List V} (rs : RS (K.more p) S H) (hp : H p = some (.lst vs)) (hz : ¬ K.Z p) (r : RpL (K.more p) S H ds vs) : Rp K S H (.lst ds) (.ref p) :=
  .lst (.inl hp) (rs.hid p (.inr rfl)).1 hz (RpL.show_ _ _ r)
end
end Bl

namespace Bl
open PySem PySem.Spec PyProof.Rows L2

/-! ### where one stands -/
/-- a block's view: the slots that it sees, its locals, its cells; the module's and built-in names -/
structure Vw where
  vl : List Nat
  lo : List Nat
  ce : List Nat
  gs : List Str
/-- the names of a block by slot -/
structure Sc (N : List Str) (sc : Scope) (vw : Vw) : Prop where
  vis : ∀ i ∈ vw.vl, ∀ x, N[i]? = some x → Vis sc x ∧ (x == ("__debug__" : Str)) = false ∧ (x == ("__classdict__" : Str)) = false
  loc : ∀ i ∈ vw.lo, ∀ x, N[i]? = some x → sc.names.lookup x = some .local
  cel : ∀ i ∈ vw.ce, ∀ x, N[i]? = some x → sc.names.lookup x = some .cell
  gl : ∀ x ∈ vw.gs, sc.names.lookup x = some .globalImplicit ∧ x ≠ "__name__" ∧ (x == ("__debug__" : Str)) = false
def isLoc : Option NameKind → Bool
  | some .local => true
  | _ => false
def isCel : Option NameKind → Bool
  | some .cell => true
  | _ => false
def isVis : Option NameKind → Bool
  | some .local => true
  | some .cell => true
  | some .free => true
  | _ => false
def isGlo : Option NameKind → Bool
  | some .globalImplicit => true
  | _ => false
def scC (N : List Str) (sc : Scope) (vw : Vw) : Bool :=
  (vw.vl.all fun i => match N[i]? with
    | none => true
    | some x => isVis (sc.names.lookup x) && !(x == ("__debug__" : Str)) && !(x == ("__classdict__" : Str))) &&
  ((vw.lo.all fun i => match N[i]? with
    | none => true
    | some x => isLoc (sc.names.lookup x)) && (vw.ce.all fun i => match N[i]? with
    | none => true
    | some x => isCel (sc.names.lookup x))) &&
  (vw.gs.all fun x => isGlo (sc.names.lookup x) && decide (x ≠ "__name__") && !(x == ("__debug__" : Str)))
theorem scOf {N : List Str} {sc : Scope} {vw : Vw} (h : scC N sc vw = true) : Sc N sc vw := by
  unfold scC at h
  rw [Bool.and_eq_true, Bool.and_eq_true, Bool.and_eq_true, List.all_eq_true, List.all_eq_true, List.all_eq_true, List.all_eq_true] at h
  obtain ⟨⟨h1, h3, h4⟩, h2⟩ := h
  refine ⟨fun i hi x e => ?_, fun i hi x e => ?_, fun i hi x e => ?_, fun x hx => ?_⟩
  · have q := h1 i hi
    rw [e] at q
    simp only [Bool.and_eq_true, Bool.not_eq_true'] at q
    refine ⟨?_, q.1.2, q.2⟩
    have z := q.1.1
    unfold isVis at z
    unfold Vis
    split at z
    · exact .inl (by assumption)
    · exact .inr (.inl (by assumption))
    · exact .inr (.inr (by assumption))
    · cases z
  · have z := h3 i hi
    rw [e] at z
    dsimp only at z
    unfold isLoc at z
    split at z
    · assumption
    · cases z
  · have z := h4 i hi
    rw [e] at z
    dsimp only at z
    unfold isCel at z
    split at z
    · assumption
    · cases z
  · have q := h2 x hx
    simp only [Bool.and_eq_true, Bool.not_eq_true', decide_eq_true_eq] at q
    refine ⟨?_, q.1.2, q.2⟩
    have z := q.1.1
    unfold isGlo at z
    split at z
    · assumption
    · cases z

/-- what is told of the program and of the block -/
structure JC (P : Program) (w : World) (K : PySem.W.Frag) (mg : Str → Option Value) (base : Heap) (N : List Str) (sc : Scope) (vw : Vw) (k : Nat) (X : Cx) (W : WX) : Prop where
  prog : X.prog = P
  ww : X.w = w
  kk : X.K = K
  gg : X.mg = mg
  bb : X.base = base
  nn : X.N = N
  ss : X.env.scope = sc
  sC : Sc N sc vw
  nd : N.Nodup
  calm : X.calm = true
  room : Room k X.A
  tk : Takes X W
  kd : X.env.scope.kind = .function
/-- a def's own body -/
structure JD (P : Program) (w : World) (K : PySem.W.Frag) (mg : Str → Option Value) (base : Heap) (N : List Str) (sc : Scope) (vw : Vw) (k : Nat) (X : Cx) (W : WX) : Prop extends JC P w K mg base N sc vw k X W where
  po : PassesOwn (model X.prog X.w) X.A X.env X.xe
  fn : ∀ x, X.fn x = true
  hs : X.stack = X.env :: X.outer
  hf : X.env.frame = some X.env.locals

section
variable {P : Program} {w : World} {K : PySem.W.Frag} {mg : Str → Option Value} {base : Heap} {N : List Str} {sc : Scope} {vw : Vw} {k : Nat} {X : Cx} {W : WX}
theorem JC.gl (c : JC P w K mg base N sc vw k X W) {x : Str} (h : x ∈ vw.gs) : Gl X x := by
  show X.env.scope.names.lookup x = some .globalImplicit
  rw [c.ss]
  exact (c.sC.gl x h).1
end

/-! ### names, constants -/
def vr (i : Nat) : TEd := fun env S Q _ => match env[i]? with
  | some (some d) => Q d S
  | _ => False
def cn (d : D) : TEd := fun _ S Q _ => Q d S
section
variable {P : Program} {w : World} {K : PySem.W.Frag} {mg : Str → Option Value} {base : Heap} {N : List Str} {sc : Scope} {vw : Vw} {k : Nat} {X : Cx} {W : WX}
theorem moVr (i : Nat) : MoE (vr i) := fun env S Q Q' E E' h _ q => by
  unfold vr at q ⊢
  split at q
  · exact h _ _ q
  · exact q
theorem moCn (d : D) : MoE (cn d) := fun env S Q Q' E E' h _ q => h _ _ q
theorem jv (c : JC P w K mg base N sc vw k X W) (i : Nat) {x : Str} {pos : Pos} (hi : i ∈ vw.vl) (hN : N[i]? = some x) : JE X W (.Name x pos) (vr i) := by
  obtain ⟨v1, v2, v3⟩ := c.sC.vis i hi x hN
  refine ⟨PE.imp (pe_var (i := i) (by rw [c.nn]; exact hN) (by rw [c.ss]; exact v1) v2 v3) fun σ H Q h => ?_, moVr i⟩
  obtain ⟨Z, env, S, re, rs, q⟩ := h
  unfold vr at q
  split at q
  · rename_i d e
    obtain ⟨v, e1, r⟩ := re.at_ i d e
    exact ⟨v, e1, q v H (.refl rs) r⟩
  · exact q.elim
theorem LE.cn {W : WX} {d : D} {v : V} {σ : L2.St} {H : Hp} {Q : VK} (hr : ∀ Z S H, Rp ⟨K, Z⟩ S H d v) (h : LE K W (cn d) σ H Q) : Q v H := by
  obtain ⟨Z, env, S, re, rs, q⟩ := h
  exact q v H (.refl rs) (hr _ _ _)
theorem je_int {i : Int} {j : Nat} {pos : Pos} : JE X W (.Constant (.int i) j pos) (cn (.int i)) := ⟨PE.imp pe_int fun σ H Q h => LE.cn (fun _ _ _ => .int i) h, moCn _⟩
theorem je_bl {b : Bool} {j : Nat} {pos : Pos} : JE X W (.Constant (.bool b) j pos) (cn (.bl b)) := ⟨PE.imp pe_bl fun σ H Q h => LE.cn (fun _ _ _ => .bl b) h, moCn _⟩
/-- a module's constant -/
structure GC (K : PySem.W.Frag) (mg : Str → Option Value) (x : Str) (d : D) : Prop where
  ex : ∃ u v, mg x = some u ∧ RelV v u ∧ ∀ Z S H, Rp ⟨K, Z⟩ S H d v
theorem je_glob (c : JC P w K mg base N sc vw k X W) {x : Str} {pos : Pos} {d : D} (hx : x ∈ vw.gs) (g : GC K mg x d) : JE X W (.Name x pos) (cn d) := by
  obtain ⟨u, v, e, r, q⟩ := g.ex
  have hk := c.kk
  subst hk
  exact ⟨PE.imp (pe_glob (c.gl hx) (by rw [c.gg]; exact e) r (c.sC.gl x hx).2.2) fun σ H Q h => LE.cn q h, moCn _⟩
end

/-! ### two operands -/
abbrev F2 := D → D → Sto → DK → Prop
def MoF2 (f : F2) : Prop := ∀ x y S (Q Q' : DK), (∀ d S, Q d S → Q' d S) → f x y S Q → f x y S Q'
def dTwo (ta tb : TEd) (f : F2) : TEd := fun env S Q E => ta env S (fun x S1 => tb env S1 (fun y S2 => f x y S2 Q) E) E
theorem moTwo {ta tb : TEd} {f : F2} (ha : MoE ta) (hb : MoE tb) (hf : MoF2 f) : MoE (dTwo ta tb f) := fun env S Q Q' E E' h he q =>
  ha _ _ _ _ _ _ (fun x S1 q1 => hb _ _ _ _ _ _ (fun y S2 q2 => hf _ _ _ _ _ h q2) he q1) he q
/-- what is wanted behind, from a state -/
abbrev PQ (K : Kz) (S : Sto) (H : Hp) (Q : VK) : DK := fun d S' => ∀ v H', Aft K S H S' H' → Rp K S' H' d v → Q v H'
theorem PQ.after {K : Kz} {S S1 : Sto} {H H1 : Hp} (a : Aft K S H S1 H1) {Q : VK} {d : D} {S2 : Sto} (h : PQ K S H Q d S2) : PQ K S1 H1 Q d S2 := fun v H' b r => h v H' (a.trans b) r
theorem two {K : PySem.W.Frag} {W : WX} {ta tb : TEd} {f : F2} (ha : MoE ta) (hb : MoE tb) (hf : MoF2 f) {σ : L2.St} {H : Hp} {Q : VK} (h : LE K W (dTwo ta tb f) σ H Q) :
    LE K W ta σ H fun x H1 => LE K W tb σ H1 fun y H2 => ∃ Z S dx dy, RS ⟨K, Z⟩ S H2 ∧ Rp ⟨K, Z⟩ S H2 dx x ∧ Rp ⟨K, Z⟩ S H2 dy y ∧ f dx dy S (PQ ⟨K, Z⟩ S H2 Q) := by
  obtain ⟨Z, env, S, re, rs, q⟩ := h
  refine LE.of ha re rs q (fun dx S1 x H1 q1 a1 r1 => ?_) fun x S1 c dx H1 q1 a1 r1 => q1 c dx H1 a1 r1
  refine LE.of hb (re.step a1.st rs) a1.rs q1 (fun dy S2 y H2 q2 a2 r2 => ?_) fun x S2 c dx H2 q2 a2 r2 => q2 c dx H2 (a1.trans a2) r2
  exact ⟨Z, S2, dx, dy, a2.rs, Rp.step a2.st a1.rs _ _ r1, r2, hf _ _ _ _ _ (fun d S3 q3 => PQ.after (a1.trans a2) q3) q2⟩

/-- an operator of two data -/
structure OpD (X : Cx) (g : Value → Value → Sem Value) (f : F2) : Prop where
  mo : MoF2 f
  run : ∀ (pins : List (Addr × Obj)) (s : Shared) (σ : L2.St) (H : Hp) (x y : V) (v u : Value) (Q : VK) (Z : Addr → Prop) (S : Sto) (dx dy : D), Inv X pins σ H s → RelV x v → RelV y u → RS ⟨X.K, Z⟩ S H → Rp ⟨X.K, Z⟩ S H dx x → Rp ⟨X.K, Z⟩ S H dy y →
    f dx dy S (PQ ⟨X.K, Z⟩ S H Q) → wpAny (model X.prog X.w) X.A (g v u) (EP X pins σ Q) X.xe s
section
variable {X : Cx} {W : WX} {a b : Expr} {ta tb : TEd} {pos : Pos}
theorem je_op {op : Operator} {f : F2} (ho : OpD X (binaryOp op) f) (ha : JE X W a ta) (hb : JE X W b tb) : JE X W (.BinOp a op b pos) (dTwo ta tb f) := by
  refine ⟨⟨fun pins s σ H Q I h => ?_⟩, moTwo ha.mo hb.mo ho.mo⟩
  refine wpAny_BinOp (bin ha.pe hb.pe I (two ha.mo hb.mo ho.mo h) fun v u s2 x y H2 I2 rx ry q => ?_)
  obtain ⟨Z, S, dx, dy, rs, r1, r2, q⟩ := q
  exact ho.run pins s2 σ H2 x y v u Q Z S dx dy I2 rx ry rs r1 r2 q
theorem je_cmp {op : CmpOp} {f : F2} (ho : OpD X (compareOp op) f) (ha : JE X W a ta) (hb : JE X W b tb) (hm : behindInMarks op b = false) : JE X W (.Compare a [op] [b] pos) (dTwo ta tb f) := by
  refine ⟨⟨fun pins s σ H Q I h => ?_⟩, moTwo ha.mo hb.mo ho.mo⟩
  refine wpAny_Compare1 (bin ha.pe hb.pe I (two ha.mo hb.mo ho.mo h) fun v u s2 x y H2 I2 rx ry q => ?_) hm
  obtain ⟨Z, S, dx, dy, rs, r1, r2, q⟩ := q
  exact ho.run pins s2 σ H2 x y v u Q Z S dx dy I2 rx ry rs r1 r2 q
end

/-! ### tests -/
/-- a value that is a truth, as a test -/
def tbl (t : TEd) : TTd := fun env S Q E => t env S (fun d S' => match d with | .bl b => Q b S' | _ => False) E
theorem moTbl {t : TEd} (h : MoE t) : MoE (tbl t) := fun env S Q Q' E E' hq he q => h _ _ _ _ _ _ (fun d S1 q1 => by
  cases d <;> first | exact hq _ _ q1 | exact q1) he q
theorem tblV {K : PySem.W.Frag} {W : WX} {t : TEd} (mo : MoE t) {σ : L2.St} {H : Hp} {Q : Bool → Hp → Prop} (h : LT K W (tbl t) σ H Q) : LE K W t σ H fun x H1 => ∃ c, x = .bl c ∧ Q c H1 := by
  obtain ⟨Z, env, S, re, rs, q⟩ := h
  refine LE.of mo re rs q (fun d S1 x H1 q1 a1 r1 => ?_) fun x S1 c dx H1 q1 a1 r1 => q1 c dx H1 a1 r1
  cases d <;> first | exact q1.elim | skip
  rename_i b
  cases r1
  exact ⟨b, rfl, q1 H1 a1⟩
/-- any value, by its truth -/
def truD : D → Sto → (Bool → Sto → Prop) → Prop := fun d S Q => match d with
  | .non => Q false S
  | .bl b => Q b S
  | .int i => Q (i != 0) S
  | .str x => x.length ≤ sizeLine ∧ Q ((x.length : Int) != 0) S
  | .tup ds => Q (!ds.isEmpty) S
  | .lst ds => Q (!ds.isEmpty) S
  | .ref a => match S a with | some ds => Q (!ds.isEmpty) S | none => False
  | .obj _ => False
def ttr (t : TEd) : TTd := fun env S Q E => t env S (fun d S' => truD d S' Q) E
theorem moTruD {d : D} {S : Sto} {Q Q' : Bool → Sto → Prop} (h : ∀ b S, Q b S → Q' b S) (q : truD d S Q) : truD d S Q' := by
  unfold truD at q ⊢
  cases d <;> first
    | exact h _ _ q
    | exact ⟨q.1, h _ _ q.2⟩
    | (dsimp only at q ⊢; split at q <;> first | exact h _ _ q | exact q.elim)
    | exact q
theorem moTtr {t : TEd} (h : MoE t) : MoE (ttr t) := fun env S Q Q' E E' hq he q => h _ _ _ _ _ _ (fun d S1 q1 => moTruD hq q1) he q
theorem isEmpty_rpl {K : Kz} {S : Sto} {H : Hp} {ds : List D} {vs : List V} (r : RpL K S H ds vs) : ds.isEmpty = vs.isEmpty := by
  cases r <;> rfl
theorem SqL.ofK {K : PySem.W.Frag} {H : Hp} {a : Addr} {vs : List V} (h : KL K a vs) : SqL K H a vs := .inr h
theorem truV {K : Kz} {S : Sto} {H : Hp} {d : D} {v : V} (rs : RS K S H) (r : Rp K S H d v) {Q : Bool → Hp → Prop} (q : truD d S fun b S' => ∀ H', Aft K S H S' H' → Q b H') : ∃ k, TruV K.K v H k ∧ Q k H := by
  have a0 : Aft K S H S H := .refl rs
  cases r with
  | non => exact ⟨false, rfl, q H a0⟩
  | bl b => exact ⟨b, rfl, q H a0⟩
  | int i => exact ⟨_, rfl, q H a0⟩
  | str x => exact ⟨_, ⟨q.1, rfl⟩, q.2 H a0⟩
  | tup hs ha => exact ⟨_, .inr (.inl ⟨_, hs, rfl⟩), by rw [← isEmpty_rpl ha]; exact q H a0⟩
  | lst hs hn hz ha => exact ⟨_, .inl ⟨_, .inl hs, rfl⟩, by rw [← isEmpty_rpl ha]; exact q H a0⟩
  | lstK hs ha => exact ⟨_, .inl ⟨_, SqL.ofK hs, rfl⟩, by rw [← isEmpty_rpl ha]; exact q H a0⟩
  | ref a =>
    unfold truD at q
    dsimp only at q
    split at q
    · rename_i ds e
      obtain ⟨vs, e1, r1⟩ := rs.at_ a ds e
      exact ⟨_, .inl ⟨_, SqL.of e1, rfl⟩, by rw [← isEmpty_rpl r1]; exact q H a0⟩
    · exact q.elim
  | obj a => exact q.elim
def tAndD (t u : TTd) : TTd := fun env S Q E => t env S (fun c S1 => if c = true then u env S1 Q E else Q false S1) E
def tOrD (t u : TTd) : TTd := fun env S Q E => t env S (fun c S1 => if c = true then Q true S1 else u env S1 Q E) E
def tNotD (t : TTd) : TTd := fun env S Q E => t env S (fun c S1 => Q (!c) S1) E
/-- and, or, not, a comparison as values: truths -/
def vOf (t : TTd) : TEd := fun env S Q E => t env S (fun c S1 => Q (.bl c) S1) E
def eIf (t : TTd) (ta tb : TEd) : TEd := fun env S Q E => t env S (fun c S1 => if c = true then ta env S1 Q E else tb env S1 Q E) E
section
variable {X : Cx} {W : WX} {a b : Expr} {ta tb : TEd} {pos : Pos} {t u : TTd} {rest : List Expr}
theorem jt_tru (h : JE X W a ta) (he : ∀ whole, isTrue a X.env whole = (do let v ← whole; standAt a.pos; holding [v] (truthy v)) := by intro _; rfl) : JT X W a (ttr ta) := by
  refine ⟨PT.imp (pt_truth h.pe he) fun σ H Q q => ?_, moTtr h.mo⟩
  obtain ⟨Z, env, S, re, rs, q⟩ := q
  refine LE.of h.mo re rs q (fun d S1 x H1 q1 a1 r1 => ?_) fun x S1 c dx H1 q1 a1 r1 => q1 c dx H1 a1 r1
  exact truV a1.rs r1 (moTruD (fun b S2 q2 H2 a2 => q2 H2 (a1.trans a2)) q1)
theorem jt_cmp {op : CmpOp} {f : F2} (ho : OpD X (compareOp op) f) (ha : JE X W a ta) (hb : JE X W b tb) (hm : behindInMarks op b = false) : JT X W (.Compare a [op] [b] pos) (tbl (dTwo ta tb f)) := by
  refine ⟨⟨fun pins s σ H Q I h => ?_⟩, moTbl (moTwo ha.mo hb.mo ho.mo)⟩
  refine wpAny_isTrue_Compare1 (thn (bin ha.pe hb.pe I (two ha.mo hb.mo ho.mo (tblV (moTwo ha.mo hb.mo ho.mo) h)) fun v u s2 x y H2 I2 rx ry q => ?_) fun v s1 h1 => thn h1 fun u s2 h2 => thn h2 fun c s3 z => z) hm
  obtain ⟨Z, S, dx, dy, rs, r1, r2, q⟩ := q
  refine thn (ho.run pins s2 σ H2 x y v u _ Z S dx dy I2 rx ry rs r1 r2 q) fun c s3 ⟨x, H1, I1, r1, q1⟩ => ?_
  obtain ⟨d, rfl, q⟩ := q1
  cases r1
  exact wpAny_truthy_bool ⟨H1, I1, q⟩
theorem jt_w (h : JW X W a t) : JT X W a t := ⟨h.pw.pt, h.mo⟩
theorem moAndD (h : MoE t) (h2 : MoE u) : MoE (tAndD t u) := fun env S Q Q' E E' hq he q => h _ _ _ _ _ _ (fun c S1 q1 => by
  cases c
  · exact hq _ _ q1
  · exact h2 _ _ _ _ _ _ hq he q1) he q
theorem moOrD (h : MoE t) (h2 : MoE u) : MoE (tOrD t u) := fun env S Q Q' E E' hq he q => h _ _ _ _ _ _ (fun c S1 q1 => by
  cases c
  · exact h2 _ _ _ _ _ _ hq he q1
  · exact hq _ _ q1) he q
theorem moNotD (h : MoE t) : MoE (tNotD t) := fun env S Q Q' E E' hq he q => h _ _ _ _ _ _ (fun c S1 q1 => hq _ _ q1) he q
theorem moVOf (h : MoE t) : MoE (vOf t) := fun env S Q Q' E E' hq he q => h _ _ _ _ _ _ (fun c S1 q1 => hq _ _ q1) he q
theorem moEIf (h : MoE t) (ha : MoE ta) (hb : MoE tb) : MoE (eIf t ta tb) := fun env S Q Q' E E' hq he q => h _ _ _ _ _ _ (fun c S1 q1 => by
  cases c
  · exact hb _ _ _ _ _ _ hq he q1
  · exact ha _ _ _ _ _ _ hq he q1) he q
theorem jw_and1 (ha : JT X W a t) : JW X W (.BoolOp .And [a] pos) t := ⟨pw_and1 ha.pt, ha.mo⟩
theorem jw_or1 (ha : JT X W a t) : JW X W (.BoolOp .Or [a] pos) t := ⟨pw_or1 ha.pt, ha.mo⟩
theorem jw_and (ha : JT X W a t) (hb : JW X W (.BoolOp .And (b :: rest) pos) u) : JW X W (.BoolOp .And (a :: b :: rest) pos) (tAndD t u) := by
  refine ⟨PW.imp (pw_and ha.pt hb.pw) fun σ H Q h => ?_, moAndD ha.mo hb.mo⟩
  obtain ⟨Z, env, S, re, rs, q⟩ := h
  refine LT.of ha.mo re rs q (fun c S1 H1 q1 a1 => ?_) fun x S1 c dx H1 q1 a1 r1 => q1 c dx H1 a1 r1
  cases c with
  | false => exact iteF (q1 H1 a1)
  | true => exact iteT (LT.of hb.mo (re.step a1.st rs) a1.rs q1 (fun c2 S2 H2 q2 a2 => q2 H2 (a1.trans a2)) fun x S2 c dx H2 q2 a2 r2 => q2 c dx H2 (a1.trans a2) r2)
theorem jw_or (ha : JT X W a t) (hb : JW X W (.BoolOp .Or (b :: rest) pos) u) : JW X W (.BoolOp .Or (a :: b :: rest) pos) (tOrD t u) := by
  refine ⟨PW.imp (pw_or ha.pt hb.pw) fun σ H Q h => ?_, moOrD ha.mo hb.mo⟩
  obtain ⟨Z, env, S, re, rs, q⟩ := h
  refine LT.of ha.mo re rs q (fun c S1 H1 q1 a1 => ?_) fun x S1 c dx H1 q1 a1 r1 => q1 c dx H1 a1 r1
  cases c with
  | true => exact iteT (q1 H1 a1)
  | false => exact iteF (LT.of hb.mo (re.step a1.st rs) a1.rs q1 (fun c2 S2 H2 q2 a2 => q2 H2 (a1.trans a2)) fun x S2 c dx H2 q2 a2 r2 => q2 c dx H2 (a1.trans a2) r2)
theorem jt_not (ha : JT X W a t) : JT X W (.UnaryOp .Not a pos) (tNotD t) := by
  refine ⟨PT.imp (pt_not ha.pt) fun σ H Q h => ?_, moNotD ha.mo⟩
  obtain ⟨Z, env, S, re, rs, q⟩ := h
  exact LT.of ha.mo re rs q (fun c S1 H1 q1 a1 => q1 H1 a1) fun x S1 c dx H1 q1 a1 r1 => q1 c dx H1 a1 r1
theorem je_ifExp {c : Expr} (hc : JT X W c t) (ha : JE X W a ta) (hb : JE X W b tb) : JE X W (.IfExp c a b pos) (eIf t ta tb) := by
  refine ⟨PE.imp (pe_ifExp hc.pt ha.pe hb.pe) fun σ H Q h => ?_, moEIf hc.mo ha.mo hb.mo⟩
  obtain ⟨Z, env, S, re, rs, q⟩ := h
  refine LT.of hc.mo re rs q (fun c S1 H1 q1 a1 => ?_) fun x S1 c dx H1 q1 a1 r1 => q1 c dx H1 a1 r1
  cases c with
  | true => exact iteT (LE.of ha.mo (re.step a1.st rs) a1.rs q1 (fun d S2 v H2 q2 a2 r2 => q2 v H2 (a1.trans a2) r2) fun x S2 c dx H2 q2 a2 r2 => q2 c dx H2 (a1.trans a2) r2)
  | false => exact iteF (LE.of hb.mo (re.step a1.st rs) a1.rs q1 (fun d S2 v H2 q2 a2 r2 => q2 v H2 (a1.trans a2) r2) fun x S2 c dx H2 q2 a2 r2 => q2 c dx H2 (a1.trans a2) r2)
/-! truths as values -/
def vNot (ta : TEd) : TEd := vOf (tNotD (tbl ta))
end

/-! ### whole numbers -/
def CMul' (i j : Int) : Prop := i.natAbs.log2 + j.natAbs.log2 < 1000000
def CDiv' (j : Int) : Prop := j ≠ 0 ∧ j.natAbs.log2 < 9000
def fAdd : F2 := fun x y S Q => match x, y with
  | .int i, .int j => Q (.int (i + j)) S
  | .str i, .str j => i.length + j.length ≤ sizeLine ∧ Q (.str (i ++ j)) S
  | .tup a, .tup b => a.length + b.length ≤ sizeLine ∧ Q (.tup (a ++ b)) S
  | _, _ => False
def fSub : F2 := fun x y S Q => match x, y with
  | .int i, .int j => Q (.int (i - j)) S
  | _, _ => False
def fMul : F2 := fun x y S Q => match x, y with
  | .int i, .int j => CMul' i j ∧ Q (.int (i * j)) S
  | _, _ => False
def fDiv : F2 := fun x y S Q => match x, y with
  | .int i, .int j => CDiv' j ∧ Q (.int (i.fdiv j)) S
  | _, _ => False
def fMod : F2 := fun x y S Q => match x, y with
  | .int i, .int j => j ≠ 0 ∧ Q (.int (i.fmod j)) S
  | _, _ => False
def fPow : F2 := fun x y S Q => match x, y with
  | .int i, .int j => 0 ≤ j ∧ (Builtin.Int.intBits i : Int) * j ≤ 2 ^ 27 ∧ Q (.int (i ^ j.toNat)) S
  | _, _ => False
def fShl : F2 := fun x y S Q => match x, y with
  | .int i, .int j => (0 ≤ j ∧ j ≤ 1000000 ∧ i.natAbs < 2 ^ 64) ∧ Q (.int (i * 2 ^ j.toNat)) S
  | _, _ => False
def fLt : F2 := fun x y S Q => match x, y with
  | .int i, .int j => Q (.bl (decide (i < j))) S
  | _, _ => False
def fLe : F2 := fun x y S Q => match x, y with
  | .int i, .int j => Q (.bl (decide (i ≤ j))) S
  | _, _ => False
def fGt : F2 := fun x y S Q => match x, y with
  | .int i, .int j => Q (.bl (decide (j < i))) S
  | _, _ => False
def fGe : F2 := fun x y S Q => match x, y with
  | .int i, .int j => Q (.bl (decide (j ≤ i))) S
  | _, _ => False
theorem moAdd : MoF2 fAdd := by (intro x y S Q Q' h q; unfold fAdd at q ⊢; split at q <;> first | exact h _ _ q | exact ⟨q.1, h _ _ q.2⟩ | exact ⟨q.1, q.2.1, h _ _ q.2.2⟩ | exact q.elim)
theorem moSub : MoF2 fSub := by (intro x y S Q Q' h q; unfold fSub at q ⊢; split at q <;> first | exact h _ _ q | exact ⟨q.1, h _ _ q.2⟩ | exact ⟨q.1, q.2.1, h _ _ q.2.2⟩ | exact q.elim)
theorem moMul : MoF2 fMul := by (intro x y S Q Q' h q; unfold fMul at q ⊢; split at q <;> first | exact h _ _ q | exact ⟨q.1, h _ _ q.2⟩ | exact ⟨q.1, q.2.1, h _ _ q.2.2⟩ | exact q.elim)
theorem moDiv : MoF2 fDiv := by (intro x y S Q Q' h q; unfold fDiv at q ⊢; split at q <;> first | exact h _ _ q | exact ⟨q.1, h _ _ q.2⟩ | exact ⟨q.1, q.2.1, h _ _ q.2.2⟩ | exact q.elim)
theorem moMod : MoF2 fMod := by (intro x y S Q Q' h q; unfold fMod at q ⊢; split at q <;> first | exact h _ _ q | exact ⟨q.1, h _ _ q.2⟩ | exact ⟨q.1, q.2.1, h _ _ q.2.2⟩ | exact q.elim)
theorem moPow : MoF2 fPow := by (intro x y S Q Q' h q; unfold fPow at q ⊢; split at q <;> first | exact h _ _ q | exact ⟨q.1, h _ _ q.2⟩ | exact ⟨q.1, q.2.1, h _ _ q.2.2⟩ | exact q.elim)
theorem moShl : MoF2 fShl := by (intro x y S Q Q' h q; unfold fShl at q ⊢; split at q <;> first | exact h _ _ q | exact ⟨q.1, h _ _ q.2⟩ | exact ⟨q.1, q.2.1, h _ _ q.2.2⟩ | exact q.elim)
theorem moLt : MoF2 fLt := by (intro x y S Q Q' h q; unfold fLt at q ⊢; split at q <;> first | exact h _ _ q | exact ⟨q.1, h _ _ q.2⟩ | exact ⟨q.1, q.2.1, h _ _ q.2.2⟩ | exact q.elim)
theorem moLe : MoF2 fLe := by (intro x y S Q Q' h q; unfold fLe at q ⊢; split at q <;> first | exact h _ _ q | exact ⟨q.1, h _ _ q.2⟩ | exact ⟨q.1, q.2.1, h _ _ q.2.2⟩ | exact q.elim)
theorem moGt : MoF2 fGt := by (intro x y S Q Q' h q; unfold fGt at q ⊢; split at q <;> first | exact h _ _ q | exact ⟨q.1, h _ _ q.2⟩ | exact ⟨q.1, q.2.1, h _ _ q.2.2⟩ | exact q.elim)
theorem moGe : MoF2 fGe := by (intro x y S Q Q' h q; unfold fGe at q ⊢; split at q <;> first | exact h _ _ q | exact ⟨q.1, h _ _ q.2⟩ | exact ⟨q.1, q.2.1, h _ _ q.2.2⟩ | exact q.elim)
theorem RS.newN {K : Kz} {S : Sto} {H : Hp} {p : Addr} {o : HO} (rs : RS K S H) (hp : H p = none) : Aft K S H S (upd H p o) := by
  have st : Step S H S (upd H p o) := fun b u h n => ⟨n, by rw [upd_ne (ne_of_none h hp)]; exact h⟩
  refine ⟨st, fun a es e => ?_, fun b hb => ?_⟩
  · obtain ⟨ws, q, r⟩ := rs.at_ a es e
    exact ⟨ws, by rw [upd_ne (ne_of_none q hp)]; exact q, RpL.step st rs _ _ r⟩
  · obtain ⟨n, vs, q⟩ := rs.hid b hb
    exact ⟨n, vs, by rw [upd_ne (ne_of_none q hp)]; exact q⟩
theorem RS.nz {K : Kz} {S : Sto} {H : Hp} {p : Addr} (rs : RS K S H) (hp : H p = none) : ¬ K.Z p := fun z => by
  obtain ⟨_, vs, q⟩ := rs.hid p z
  rw [hp] at q
  cases q
theorem Rp.newT {K : Kz} {S : Sto} {H : Hp} {ds : List D} {vs : List V} {p : Addr} (rs : RS K S H) (hp : H p = none) (r : RpL K S H ds vs) : Aft K S H S (upd H p (.tup vs)) ∧ Rp K S (upd H p (.tup vs)) (.tup ds) (.ref p) := by
  have a := rs.newN (o := .tup vs) hp
  exact ⟨a, .tup (SqT.of upd_same) (RpL.step a.st rs _ _ r)⟩
theorem Rp.newL {K : Kz} {S : Sto} {H : Hp} {ds : List D} {vs : List V} {p : Addr} (rs : RS K S H) (hp : H p = none) (r : RpL K S H ds vs) : Aft K S H S (upd H p (.lst vs)) ∧ Rp K S (upd H p (.lst vs)) (.lst ds) (.ref p) := by
  have a := rs.newN (o := .lst vs) hp
  exact ⟨a, .lst (.inl upd_same) (rs.free hp) (rs.nz hp) (RpL.step a.st rs _ _ r)⟩
/-- a grown list's items are told anew -/
theorem RS.tell {K : Kz} {S S' : Sto} {H H' : Hp} {ds : List D} {vs : List V} {p : Addr} (rs : RS K S H) (st : Step S H (sup S p ds) (upd H p (.lst vs))) (nz : ¬ K.Z p) (r : RpL K S H ds vs) : Aft K S H (sup S p ds) (upd H p (.lst vs)) := by
  refine ⟨st, fun a es e => ?_, fun b hb => ?_⟩
  · by_cases ha : a = p
    · subst ha
      rw [sup_same] at e
      cases e
      exact ⟨vs, upd_same, RpL.step st rs _ _ r⟩
    · rw [sup_ne ha] at e
      obtain ⟨ws, q, r⟩ := rs.at_ a es e
      exact ⟨ws, by rw [upd_ne ha]; exact q, RpL.step st rs _ _ r⟩
  · have ne : b ≠ p := fun z => nz (z ▸ hb)
    obtain ⟨n, ws, q⟩ := rs.hid b hb
    exact ⟨by rw [sup_ne ne]; exact n, ws, by rw [upd_ne ne]; exact q⟩
/-- a list that is to be grown -/
theorem Rp.newR {K : Kz} {S : Sto} {H : Hp} {ds : List D} {vs : List V} {p : Addr} (rs : RS K S H) (hp : H p = none) (r : RpL K S H ds vs) : Aft K S H (sup S p ds) (upd H p (.lst vs)) :=
  rs.tell (S' := S) (H' := H) (fun b o h n => ⟨by rw [sup_ne (ne_of_none h hp)]; exact n, by rw [upd_ne (ne_of_none h hp)]; exact h⟩) (rs.nz hp) r
theorem RS.nzS {K : Kz} {S : Sto} {H : Hp} {p : Addr} {es : List D} (rs : RS K S H) (hp : S p = some es) : ¬ K.Z p := fun z => by
  have n := (rs.hid p z).1
  rw [hp] at n
  cases n
/-- a grown list is written -/
theorem Rp.putR {K : Kz} {S : Sto} {H : Hp} {ds es : List D} {vs : List V} {p : Addr} (rs : RS K S H) (hp : S p = some es) (r : RpL K S H ds vs) : Aft K S H (sup S p ds) (upd H p (.lst vs)) := by
  have np : ∀ b, S b = none → b ≠ p := fun b n e => by rw [e, hp] at n; cases n
  exact rs.tell (S' := S) (H' := H) (fun b o h n => ⟨by rw [sup_ne (np b n)]; exact n, by rw [upd_ne (np b n)]; exact h⟩) (rs.nzS hp) r
/-- a grown list is grown no more -/
theorem Rp.frz {K : Kz} {S : Sto} {H : Hp} {ds : List D} {p : Addr} (rs : RS K S H) (hp : S p = some ds) : Aft K S H (sdel S p) H ∧ Rp K (sdel S p) H (.lst ds) (.ref p) := by
  have np : ∀ b, S b = none → b ≠ p := fun b n e => by rw [e, hp] at n; cases n
  have st : Step S H (sdel S p) H := fun b o h n => ⟨by rw [sdel_ne (np b n)]; exact n, h⟩
  obtain ⟨vs, e, r⟩ := rs.at_ p ds hp
  refine ⟨⟨st, fun a es q => ?_, fun b hb => ?_⟩, .lst (.inl e) sdel_same (rs.nzS hp) (RpL.step st rs _ _ r)⟩
  · by_cases ha : a = p
    · subst ha
      rw [sdel_same] at q
      cases q
    · rw [sdel_ne ha] at q
      obtain ⟨ws, z, r⟩ := rs.at_ a es q
      exact ⟨ws, z, RpL.step st rs _ _ r⟩
  · obtain ⟨n, q⟩ := rs.hid b hb
    exact ⟨by rw [sdel_ne (np b n)]; exact n, q⟩
section
variable {X : Cx}
theorem IntMulOk.of' {i j : Int} (h : CMul' i j) : IntMulOk i j := CMulW.ok h
theorem opD_add : OpD X (binaryOp .Add) fAdd := by
  refine ⟨moAdd, fun pins s σ H x y v u Q Z S dx dy I rx ry rs r1 r2 h => ?_⟩
  cases r1 with
  | int i =>
    cases r2 with
    | int j => exact op_add pins s σ H _ _ v u Q I rx ry ⟨i, j, rfl, rfl, h _ H (.refl rs) (.int _)⟩
    | _ => exact h.elim
  | str i =>
    cases r2 with
    | str j => exact op_add_str pins s σ H _ _ v u Q I rx ry ⟨i, j, rfl, rfl, h.1, h.2 _ H (.refl rs) (.str _)⟩
    | _ => exact h.elim
  | tup hs ha =>
    cases r2 with
    | tup hs2 ha2 =>
      rename_i a xs ds b ys es
      have l1 := ha.length
      have l2 := ha2.length
      refine op_catA pins s σ H _ _ v u Q I rx ry ⟨a, b, xs, ys, rfl, rfl, hs, hs2, by rw [← l1, ← l2]; exact h.1, fun e => ?_, fun _ e => ?_, fun _ _ p hp => ?_⟩
      · subst e
        cases ha
        exact h.2 _ H (.refl rs) (.tup hs2 ha2)
      · subst e
        cases ha2
        exact h.2 _ H (.refl rs) (by rw [List.append_nil]; exact .tup hs ha)
      · obtain ⟨a1, r⟩ := Rp.newT rs hp (ha.append ha2)
        exact h.2 _ _ a1 r
    | _ => exact h.elim
  | _ => cases r2 <;> exact h.elim
theorem opD_sub : OpD X (binaryOp .Sub) fSub := by
  refine ⟨moSub, fun pins s σ H x y v u Q Z S dx dy I rx ry rs r1 r2 h => ?_⟩
  cases r1 <;> cases r2 <;> first | exact h.elim | skip
  exact op_sub pins s σ H _ _ v u Q I rx ry ⟨_, _, rfl, rfl, h _ H (.refl rs) (.int _)⟩
theorem opD_mul : OpD X (binaryOp .Mult) fMul := by
  refine ⟨moMul, fun pins s σ H x y v u Q Z S dx dy I rx ry rs r1 r2 h => ?_⟩
  cases r1 <;> cases r2 <;> first | exact h.elim | skip
  exact op_mulW pins s σ H _ _ v u Q I rx ry ⟨_, _, rfl, rfl, h.1, h.2 _ H (.refl rs) (.int _)⟩
theorem opD_div : OpD X (binaryOp .FloorDiv) fDiv := by
  refine ⟨moDiv, fun pins s σ H x y v u Q Z S dx dy I rx ry rs r1 r2 h => ?_⟩
  cases r1 <;> cases r2 <;> first | exact h.elim | skip
  obtain ⟨t, rfl⟩ := rx
  obtain ⟨t', rfl⟩ := ry
  exact floordiv_int h.1.1 ⟨.int _, H, I.tok _, ⟨_, rfl⟩, h.2 _ H (.refl rs) (.int _)⟩ (.inl (PyProof.noPylong_of_log2 h.1.2))
theorem opD_mod : OpD X (binaryOp .Mod) fMod := by
  refine ⟨moMod, fun pins s σ H x y v u Q Z S dx dy I rx ry rs r1 r2 h => ?_⟩
  cases r1 <;> cases r2 <;> first | exact h.elim | skip
  exact op_modN pins s σ H _ _ v u Q I rx ry ⟨_, _, rfl, rfl, h.1, h.2 _ H (.refl rs) (.int _)⟩
theorem opD_pow : OpD X (binaryOp .Pow) fPow := by
  refine ⟨moPow, fun pins s σ H x y v u Q Z S dx dy I rx ry rs r1 r2 h => ?_⟩
  cases r1 <;> cases r2 <;> first | exact h.elim | skip
  obtain ⟨t, rfl⟩ := rx
  obtain ⟨t', rfl⟩ := ry
  exact pow_int h.1 h.2.1 ⟨.int _, H, I.tok _, ⟨_, rfl⟩, h.2.2 _ H (.refl rs) (.int _)⟩
theorem opD_shl : OpD X (binaryOp .LShift) fShl := by
  refine ⟨moShl, fun pins s σ H x y v u Q Z S dx dy I rx ry rs r1 r2 h => ?_⟩
  cases r1 <;> cases r2 <;> first | exact h.elim | skip
  exact op_shl pins s σ H _ _ v u Q I rx ry ⟨_, _, rfl, rfl, h.1, h.2 _ H (.refl rs) (.int _)⟩
theorem opD_lt : OpD X (compareOp .Lt) fLt := by
  refine ⟨moLt, fun pins s σ H x y v u Q Z S dx dy I rx ry rs r1 r2 h => ?_⟩
  cases r1 <;> cases r2 <;> first | exact h.elim | skip
  exact op_lt pins s σ H _ _ v u Q I rx ry ⟨_, _, rfl, rfl, h _ H (.refl rs) (.bl _)⟩
theorem opD_le : OpD X (compareOp .LtE) fLe := by
  refine ⟨moLe, fun pins s σ H x y v u Q Z S dx dy I rx ry rs r1 r2 h => ?_⟩
  cases r1 <;> cases r2 <;> first | exact h.elim | skip
  exact op_le pins s σ H _ _ v u Q I rx ry ⟨_, _, rfl, rfl, h _ H (.refl rs) (.bl _)⟩
theorem opD_gt : OpD X (compareOp .Gt) fGt := by
  refine ⟨moGt, fun pins s σ H x y v u Q Z S dx dy I rx ry rs r1 r2 h => ?_⟩
  cases r1 <;> cases r2 <;> first | exact h.elim | skip
  exact op_gt pins s σ H _ _ v u Q I rx ry ⟨_, _, rfl, rfl, h _ H (.refl rs) (.bl _)⟩
theorem opD_ge : OpD X (compareOp .GtE) fGe := by
  refine ⟨moGe, fun pins s σ H x y v u Q Z S dx dy I rx ry rs r1 r2 h => ?_⟩
  cases r1 <;> cases r2 <;> first | exact h.elim | skip
  exact op_ge pins s σ H _ _ v u Q I rx ry ⟨_, _, rfl, rfl, h _ H (.refl rs) (.bl _)⟩
end
end Bl

namespace Bl
open PySem PySem.Spec PyProof.Rows L2

/-! ### equality -/
mutual
def py : D → PyData
  | .non => .none
  | .bl b => .bool b
  | .int i => .int i
  | .str x => .str x
  | .tup ds => .tuple (pyL ds)
  | .lst ds => .list (pyL ds)
  | .ref _ => .none
  | .obj _ => .none
def pyL : List D → List PyData
  | [] => []
  | d :: ds => py d :: pyL ds
end
mutual
/-- no address within -/
def pl : D → Bool
  | .non => true
  | .bl _ => true
  | .int _ => true
  | .str _ => true
  | .tup ds => plL ds
  | .lst ds => plL ds
  | .ref _ => false
  | .obj _ => false
def plL : List D → Bool
  | [] => true
  | d :: ds => pl d && plL ds
end
section
variable {K : Kz} {S : Sto} {H : Hp}
mutual
theorem Rp.dp : ∀ (d : D) (v : V), pl d = true → Rp K S H d v → Dp K.K H v (py d)
  | .non, _, _, h => by cases h; exact .non
  | .bl b, _, _, h => by cases h; exact .bl b
  | .int i, _, _, h => by cases h; exact .int i
  | .str x, _, _, h => by cases h; exact .str x
  | .tup ds, _, p, h => by
    cases h with
    | tup hs ha => exact .tup hs (RpL.dp ds _ p ha)
  | .lst ds, _, p, h => by
    cases h with
    | lst hs hn hz ha => exact .lst (.inl hs) (RpL.dp ds _ p ha)
    | lstK hs ha => exact .lst (SqL.ofK hs) (RpL.dp ds _ p ha)
  | .ref _, _, p, _ => by cases p
  | .obj _, _, p, _ => by cases p
theorem RpL.dp : ∀ (ds : List D) (vs : List V), plL ds = true → RpL K S H ds vs → DpAll K.K H vs (pyL ds)
  | [], _, _, h => by cases h; exact .nil
  | d :: ds, _, p, h => by
    have p' : (pl d && plL ds) = true := p
    rw [Bool.and_eq_true] at p'
    cases h with
    | cons h1 h2 => exact .cons (Rp.dp d _ p'.1 h1) (RpL.dp ds _ p'.2 h2)
end
end
/-- data that == takes -/
def okD (d : D) : Prop := pl d = true ∧ SeqAt.shaped (py d) = true
def eqD (x y : D) : Bool := PyData.eqv (py x) (py y)
def fEq : F2 := fun x y S Q => okD x ∧ okD y ∧ Q (.bl (eqD x y)) S
def fNe : F2 := fun x y S Q => okD x ∧ okD y ∧ Q (.bl (!eqD x y)) S
theorem moEq : MoF2 fEq := fun x y S Q Q' h q => ⟨q.1, q.2.1, h _ _ q.2.2⟩
theorem moNe : MoF2 fNe := fun x y S Q Q' h q => ⟨q.1, q.2.1, h _ _ q.2.2⟩
def isN : D → Bool
  | .non => true
  | _ => false
def fIs : F2 := fun x y S Q => match y with
  | .non => Q (.bl (isN x)) S
  | _ => False
def fIsNot : F2 := fun x y S Q => match y with
  | .non => Q (.bl (!isN x)) S
  | _ => False
theorem moIs : MoF2 fIs := fun x y S Q Q' h q => by
  unfold fIs at q ⊢
  split at q <;> first | exact h _ _ q | exact q
theorem moIsNot : MoF2 fIsNot := fun x y S Q Q' h q => by
  unfold fIsNot at q ⊢
  split at q <;> first | exact h _ _ q | exact q
/-- in a list, a tuple of data; a text in a text -/
def fIn (neg : Bool) : F2 := fun x y S Q => match y with
  | .lst ds => okD x ∧ okD (.lst ds) ∧ Q (.bl (xor neg (ds.any fun z => eqD z x))) S
  | .tup ds => okD x ∧ okD (.tup ds) ∧ Q (.bl (xor neg (ds.any fun z => eqD z x))) S
  | .str j => match x with
    | .str i => Q (.bl (xor neg (!(Builtin.Str.occurrences j i 0 j.length 1).isEmpty))) S
    | _ => False
  | _ => False
theorem moIn (neg : Bool) : MoF2 (fIn neg) := fun x y S Q Q' h q => by
  unfold fIn at q ⊢
  cases y <;> first
    | exact ⟨q.1, q.2.1, h _ _ q.2.2⟩
    | (cases x <;> first | exact h _ _ q | exact q)
    | exact q
section
variable {X : Cx}
theorem opD_eq {k : Nat} (hr : Room k X.A) : OpD X (compareOp .Eq) fEq := by
  refine ⟨moEq, fun pins s σ H x y v u Q Z S dx dy I rx ry rs r1 r2 h => ?_⟩
  exact op_eqD hr.units pins s σ H _ _ v u Q I rx ry ⟨_, _, Rp.dp _ _ h.1.1 r1, Rp.dp _ _ h.2.1.1 r2, h.1.2, h.2.1.2, h.2.2 _ H (.refl rs) (.bl _)⟩
theorem opD_ne {k : Nat} (hr : Room k X.A) : OpD X (compareOp .NotEq) fNe := by
  refine ⟨moNe, fun pins s σ H x y v u Q Z S dx dy I rx ry rs r1 r2 h => ?_⟩
  exact op_neD hr.units pins s σ H _ _ v u Q I rx ry ⟨_, _, Rp.dp _ _ h.1.1 r1, Rp.dp _ _ h.2.1.1 r2, h.1.2, h.2.1.2, h.2.2 _ H (.refl rs) (.bl _)⟩
end

/-! ### -a -/
def dNeg (t : TEd) : TEd := fun env S Q E => t env S (fun d S' => match d with | .int i => Q (.int (-i)) S' | _ => False) E
theorem moNeg {t : TEd} (h : MoE t) : MoE (dNeg t) := fun env S Q Q' E E' hq he q => h _ _ _ _ _ _ (fun d S1 q1 => by
  cases d <;> first | exact hq _ _ q1 | exact q1) he q
section
variable {X : Cx} {W : WX} {a b c : Expr} {ta tb tc : TEd} {pos : Pos}
theorem je_neg (ha : JE X W a ta) : JE X W (.UnaryOp .USub a pos) (dNeg ta) := by
  refine ⟨PE.imp (pe_un un_neg ha.pe) fun σ H Q h => ?_, moNeg ha.mo⟩
  obtain ⟨Z, env, S, re, rs, q⟩ := h
  refine LE.of ha.mo re rs q (fun d S1 x H1 q1 a1 r1 => ?_) fun x S1 c dx H1 q1 a1 r1 => q1 c dx H1 a1 r1
  cases d <;> first | exact q1.elim | skip
  cases r1
  exact ⟨_, rfl, q1 _ H1 a1 (.int _)⟩
/-- a op b op c, the two answers truths -/
def dChain (ta tb tc : TEd) (f g : F2) : TEd := fun env S Q E => ta env S (fun x S1 => tb env S1 (fun y S2 => f x y S2 (fun d S3 => match d with
  | .bl true => tc env S3 (fun z S4 => g y z S4 Q) E
  | .bl false => Q (.bl false) S3
  | _ => False)) E) E
theorem moChain {f g : F2} (ha : MoE ta) (hb : MoE tb) (hc : MoE tc) (hf : MoF2 f) (hg : MoF2 g) : MoE (dChain ta tb tc f g) := fun env S Q Q' E E' h he q =>
  ha _ _ _ _ _ _ (fun x S1 q1 => hb _ _ _ _ _ _ (fun y S2 q2 => hf _ _ _ _ _ (fun d S3 q3 => by
    cases d <;> first | exact q3 | skip
    rename_i b
    cases b
    · exact h _ _ q3
    · exact hc _ _ _ _ _ _ (fun z S4 q4 => hg _ _ _ _ _ h q4) he q3) q2) he q1) he q
/-- OpD's answer, as a relation of the layer's -/
def rD (K : PySem.W.Frag) (f : F2) : R2 := fun x y H Q => ∃ Z S dx dy, RS ⟨K, Z⟩ S H ∧ Rp ⟨K, Z⟩ S H dx x ∧ Rp ⟨K, Z⟩ S H dy y ∧ f dx dy S (PQ ⟨K, Z⟩ S H Q)
theorem OpD.op {g : Value → Value → Sem Value} {f : F2} (h : OpD X g f) : OpR X g (rD X.K f) := fun pins s σ H x y v u Q I rx ry ⟨Z, S, dx, dy, rs, r1, r2, q⟩ => h.run pins s σ H x y v u Q Z S dx dy I rx ry rs r1 r2 q
end

/-! ### argument lists, displays -/
def aNil : TAd := fun _ S Q _ => Q [] S
def aCons (t : TEd) (u : TAd) : TAd := fun env S Q E => t env S (fun d S1 => u env S1 (fun ds S2 => Q (d :: ds) S2) E) E
def dTup (t : TAd) : TEd := fun env S Q E => t env S (fun ds S1 => ds.length ≤ sizeLine ∧ Q (.tup ds) S1) E
def dLst (t : TAd) : TEd := fun env S Q E => t env S (fun ds S1 => ds.length ≤ sizeLine ∧ Q (.lst ds) S1) E
def dLstR (t : TAd) : TEd := fun env S Q E => t env S (fun ds S1 => ds.length ≤ sizeLine ∧ ∀ a, S1 a = none → Q (.ref a) (sup S1 a ds)) E
theorem moNilA : MoE aNil := fun env S Q Q' E E' h he q => h _ _ q
theorem moConsA {t : TEd} {u : TAd} (ht : MoE t) (hu : MoE u) : MoE (aCons t u) := fun env S Q Q' E E' h he q =>
  ht _ _ _ _ _ _ (fun d S1 q1 => hu _ _ _ _ _ _ (fun ds S2 q2 => h _ _ q2) he q1) he q
theorem moTup {t : TAd} (ht : MoE t) : MoE (dTup t) := fun env S Q Q' E E' h he q => ht _ _ _ _ _ _ (fun ds S1 q1 => ⟨q1.1, h _ _ q1.2⟩) he q
theorem moLst {t : TAd} (ht : MoE t) : MoE (dLst t) := fun env S Q Q' E E' h he q => ht _ _ _ _ _ _ (fun ds S1 q1 => ⟨q1.1, h _ _ q1.2⟩) he q
theorem moLstR {t : TAd} (ht : MoE t) : MoE (dLstR t) := fun env S Q Q' E E' h he q => ht _ _ _ _ _ _ (fun ds S1 q1 => ⟨q1.1, fun a n => h _ _ (q1.2 a n)⟩) he q
section
variable {X : Cx} {W : WX} {e : Expr} {es : List Expr} {t : TEd} {u : TAd} {pos : Pos}
theorem LA.cons {K : PySem.W.Frag} {t : TEd} {u : TAd} (ht : MoE t) (hu : MoE u) {σ : L2.St} {H : Hp} {Q : List V → Hp → Prop} (h : LA K W (aCons t u) σ H Q) : LE K W t σ H fun x H1 => LA K W u σ H1 fun xs H2 => Q (x :: xs) H2 := by
  obtain ⟨Z, env, S, re, rs, q⟩ := h
  refine LE.of ht re rs q (fun d S1 x H1 q1 a1 r1 => ?_) fun x S1 c dx H1 q1 a1 r1 => q1 c dx H1 a1 r1
  exact LA.of hu (re.step a1.st rs) a1.rs q1 (fun ds S2 vs H2 q2 a2 r2 => q2 _ H2 (a1.trans a2) (.cons (Rp.step a2.st a1.rs _ _ r1) r2)) fun x S2 c dx H2 q2 a2 r2 => q2 c dx H2 (a1.trans a2) r2
theorem ja_nil : JA X W [] aNil := ⟨PA.imp pa_nil fun σ H Q h => by
  obtain ⟨Z, env, S, re, rs, q⟩ := h
  exact q [] H (.refl rs) .nil, moNilA⟩
theorem ja_cons (ha : JE X W e t) (hr : JA X W es u) (hs : starEach (e :: es) X.env = (false, eval e X.env) :: starEach es X.env := by rfl) : JA X W (e :: es) (aCons t u) :=
  ⟨PA.imp (pa_cons ha.pe hr.pa hs) fun σ H Q h => LA.cons ha.mo hr.mo h, moConsA ha.mo hr.mo⟩
theorem je_tup {x1 : Nat} (h : JA X W es u) : JE X W (.Tuple es x1 pos) (dTup u) := by
  refine ⟨PE.imp (pe_tup h.pa) fun σ H Q q => ?_, moTup h.mo⟩
  obtain ⟨Z, env, S, re, rs, q⟩ := q
  refine LA.of h.mo re rs q (fun ds S1 vs H1 q1 a1 r1 => ⟨by rw [← r1.length]; exact q1.1, fun p hp => ?_⟩) fun x S1 c dx H1 q1 a1 r1 => q1 c dx H1 a1 r1
  obtain ⟨a2, r2⟩ := Rp.newT a1.rs hp r1
  exact q1.2 _ _ (a1.trans a2) r2
theorem je_lst (h : JA X W es u) : JE X W (.List es pos) (dLst u) := by
  refine ⟨PE.imp (pe_lst h.pa) fun σ H Q q => ?_, moLst h.mo⟩
  obtain ⟨Z, env, S, re, rs, q⟩ := q
  refine LA.of h.mo re rs q (fun ds S1 vs H1 q1 a1 r1 => ⟨by rw [← r1.length]; exact q1.1, fun p hp => ?_⟩) fun x S1 c dx H1 q1 a1 r1 => q1 c dx H1 a1 r1
  obtain ⟨a2, r2⟩ := Rp.newL a1.rs hp r1
  exact q1.2 _ _ (a1.trans a2) r2
/-- a list that is to be grown -/
theorem je_lstR (h : JA X W es u) : JE X W (.List es pos) (dLstR u) := by
  refine ⟨PE.imp (pe_lst h.pa) fun σ H Q q => ?_, moLstR h.mo⟩
  obtain ⟨Z, env, S, re, rs, q⟩ := q
  refine LA.of h.mo re rs q (fun ds S1 vs H1 q1 a1 r1 => ⟨by rw [← r1.length]; exact q1.1, fun p hp => ?_⟩) fun x S1 c dx H1 q1 a1 r1 => q1 c dx H1 a1 r1
  exact q1.2 p (a1.rs.free hp) _ _ (a1.trans (Rp.newR a1.rs hp r1)) (.ref p)
end

/-! ### subscripts -/
def fIx : F2 := fun x y S Q => match y with
  | .int i => match x with
    | .tup ds => match atI ds i with | some d => Q d S | none => False
    | .lst ds => match atI ds i with | some d => Q d S | none => False
    | .ref a => match S a with
      | some ds => match atI ds i with | some d => Q d S | none => False
      | none => False
    | .str z => z.length ≤ sizeLine ∧ match atI z.cps.toList i with | some c => Q (.str ⟨#[c]⟩) S | none => False
    | _ => False
  | _ => False
theorem moIx : MoF2 fIx := fun x y S Q Q' h q => by
  unfold fIx at q ⊢
  cases y <;> first | exact q | skip
  cases x <;> first | exact q | skip
  · dsimp only at q ⊢; refine ⟨q.1, ?_⟩; have q2 := q.2; split at q2 <;> first | exact h _ _ q2 | exact q2
  · dsimp only at q ⊢; split at q <;> first | exact h _ _ q | exact q
  · dsimp only at q ⊢; split at q <;> first | exact h _ _ q | exact q
  · dsimp only at q ⊢
    split at q
    · split at q <;> first | exact h _ _ q | exact q
    · exact q
theorem atI_rp {K : Kz} {S : Sto} {H : Hp} {ds : List D} {vs : List V} {i : Int} {d : D} (r : RpL K S H ds vs) (e : atI ds i = some d) : ∃ v, atI vs i = some v ∧ Rp K S H d v := by
  unfold atI at e ⊢
  rw [← r.length]
  cases h : ixN ds.length i with
  | none => rw [h] at e; cases e
  | some j =>
    rw [h] at e
    exact r.get e
section
variable {X : Cx} {W : WX} {a b : Expr} {ta tb : TEd} {pos : Pos}
theorem ixD : IxR X (rD X.K fIx) := by
  intro value slice pins s σ H x y v u Q I rx ry h hs
  obtain ⟨Z, S, dx, dy, rs, r1, r2, q⟩ := h
  cases r2 <;> first | (unfold fIx at q; exact q.elim) | skip
  rename_i i
  cases r1 with
  | tup hq ha =>
    unfold fIx at q; dsimp only at q
    split at q <;> first | exact q.elim | skip
    rename_i d e
    obtain ⟨z, e2, r⟩ := atI_rp ha e
    exact ix_tup value slice pins s σ H _ _ v u Q I rx ry ⟨_, _, _, z, rfl, rfl, hq, e2, q z H (.refl rs) r⟩ hs
  | lst hq hn hz ha =>
    unfold fIx at q; dsimp only at q
    split at q <;> first | exact q.elim | skip
    rename_i d e
    obtain ⟨z, e2, r⟩ := atI_rp ha e
    exact ix_list value slice pins s σ H _ _ v u Q I rx ry ⟨_, _, _, z, rfl, rfl, .inl hq, e2, q z H (.refl rs) r⟩ hs
  | lstK hq ha =>
    unfold fIx at q; dsimp only at q
    split at q <;> first | exact q.elim | skip
    rename_i d e
    obtain ⟨z, e2, r⟩ := atI_rp ha e
    exact ix_list value slice pins s σ H _ _ v u Q I rx ry ⟨_, _, _, z, rfl, rfl, SqL.ofK hq, e2, q z H (.refl rs) r⟩ hs
  | ref a =>
    unfold fIx at q; dsimp only at q
    split at q <;> first | exact q.elim | skip
    rename_i ds e0
    split at q <;> first | exact q.elim | skip
    rename_i d e
    obtain ⟨vs, hl, ha⟩ := rs.at_ a ds e0
    obtain ⟨z, e2, r⟩ := atI_rp ha e
    exact ix_list value slice pins s σ H _ _ v u Q I rx ry ⟨_, _, _, z, rfl, rfl, SqL.of hl, e2, q z H (.refl rs) r⟩ hs
  | str z =>
    unfold fIx at q; dsimp only at q
    obtain ⟨hz, q⟩ := q
    split at q <;> first | exact q.elim | skip
    rename_i c e
    exact ix_str value slice pins s σ H _ _ v u Q I rx ry ⟨z, i, c, rfl, rfl, hz, e, q _ H (.refl rs) (.str _)⟩ hs
  | _ => unfold fIx at q; exact q.elim
theorem je_ix (ha : JE X W a ta) (hb : JE X W b tb) (hs : PlainIx b := by exact fun _ _ => rfl) : JE X W (.Subscript a b pos) (dTwo ta tb fIx) :=
  ⟨PE.imp (pe_ix ixD ha.pe hb.pe hs) fun σ H Q h => two ha.mo hb.mo moIx h, moTwo ha.mo hb.mo moIx⟩
end

/-! ### slices -/
abbrev TOd := TX (Option Int)
def oNone : TOd := fun _ S Q _ => Q none S
def oSome (t : TEd) : TOd := fun env S Q E => t env S (fun d S1 => match d with | .int i => Q (some i) S1 | _ => False) E
theorem moONone : MoE oNone := fun env S Q Q' E E' h he q => h _ _ q
theorem moOSome {t : TEd} (ht : MoE t) : MoE (oSome t) := fun env S Q Q' E E' h he q => ht _ _ _ _ _ _ (fun d S1 q1 => by
  cases d <;> first | exact h _ _ q1 | exact q1) he q
def LO (K : PySem.W.Frag) (W : WX) (t : TOd) : TO := fun σ H Q => ∃ Z env S, RE ⟨K, Z⟩ S H env σ ∧ RS ⟨K, Z⟩ S H ∧ t env S (fun b S' => ∀ H', Aft ⟨K, Z⟩ S H S' H' → Q b H') (PX ⟨K, Z⟩ S H σ W)
theorem LO.of {K : Kz} {W : WX} {S : Sto} {H : Hp} {env : Ev} {σ : L2.St} {t : TOd} (mo : MoE t) (re : RE K S H env σ) (rs : RS K S H) {C : Option Int → Sto → Prop} {E : EK} {R : Option Int → Hp → Prop} (h : t env S C E)
    (hc : ∀ d S1 H1, C d S1 → Aft K S H S1 H1 → R d H1) (he : ∀ x S1 c dx H1, E x S1 → Aft K S H S1 H1 → RX K S1 H1 x c dx → W c dx σ H1) : LO K.K W t σ H R :=
  ⟨K.Z, env, S, re, rs, mo _ _ _ _ _ _ (fun d S1 q H1 a => hc d S1 H1 q a) (fun x S1 q c dx H1 a r => he x S1 c dx H1 q a r) h⟩
structure JO (X : Cx) (W : WX) (e : Option Expr) (t : TOd) : Prop where
  po : PO X e (LO X.K W t)
  mo : MoE t
def cutD (ds : List D) (lo hi : Option Int) : List D := (ds.drop (HT.sIx ds.length 0 lo)).take (HT.sIx ds.length ds.length hi - HT.sIx ds.length 0 lo)
def fSl (x : D) (lo hi : Option Int) (S : Sto) (Q : DK) : Prop := match x with
  | .tup ds => Q (.tup (cutD ds lo hi)) S
  | .lst ds => Q (.lst (cutD ds lo hi)) S
  | .ref a => match S a with
    | some ds => Q (.lst (cutD ds lo hi)) S
    | none => False
  | .str z => z.length ≤ sizeLine ∧ Q (.str (cutS z lo hi)) S
  | _ => False
theorem moFSl {x : D} {lo hi : Option Int} {S : Sto} {Q Q' : DK} (h : ∀ d S, Q d S → Q' d S) (q : fSl x lo hi S Q) : fSl x lo hi S Q' := by
  unfold fSl at q ⊢
  cases x <;> first
    | exact h _ _ q
    | exact ⟨q.1, h _ _ q.2⟩
    | (dsimp only at q ⊢; split at q <;> first | exact h _ _ q | exact q)
    | exact q
def dSl (t : TEd) (lo hi : TOd) : TEd := fun env S Q E => t env S (fun x S1 => lo env S1 (fun l S2 => hi env S2 (fun u S3 => fSl x l u S3 Q) E) E) E
theorem moSl {t : TEd} {lo hi : TOd} (ht : MoE t) (hl : MoE lo) (hh : MoE hi) : MoE (dSl t lo hi) := fun env S Q Q' E E' h he q =>
  ht _ _ _ _ _ _ (fun x S1 q1 => hl _ _ _ _ _ _ (fun l S2 q2 => hh _ _ _ _ _ _ (fun u S3 q3 => moFSl h q3) he q2) he q1) he q
theorem cut_rp {K : Kz} {S : Sto} {H : Hp} {ds : List D} {vs : List V} {lo hi : Option Int} (r : RpL K S H ds vs) : RpL K S H (cutD ds lo hi) (cutV vs lo hi) := by
  unfold cutD cutV
  rw [r.length]
  exact (r.drop _).take _
theorem cutV_all {vs : List V} {lo hi : Option Int} (h : HT.sIx vs.length 0 lo = 0 ∧ HT.sIx vs.length vs.length hi = vs.length) : cutV vs lo hi = vs := by
  unfold cutV
  rw [h.1, h.2]
  simp
section
variable {X : Cx} {W : WX} {e : Expr} {t : TEd} {lo hi : Option Expr} {tl th : TOd} {pos p2 : Pos}
theorem jo_none : JO X W none oNone := ⟨⟨fun pins s σ H Q I h => by
  obtain ⟨Z, env, S, re, rs, q⟩ := h
  exact po_none.run pins s σ H Q I (q H (.refl rs))⟩, moONone⟩
theorem jo_some (h : JE X W e t) : JO X W (some e) (oSome t) := ⟨⟨fun pins s σ H Q I h2 => by
  obtain ⟨Z, env, S, re, rs, q⟩ := h2
  refine (po_some h.pe).run pins s σ H Q I (LE.of h.mo re rs q (fun d S1 x H1 q1 a1 r1 => ?_) fun x S1 c dx H1 q1 a1 r1 => q1 c dx H1 a1 r1)
  cases d <;> first | exact q1.elim | skip
  cases r1
  exact ⟨_, rfl, q1 H1 a1⟩⟩, moOSome h.mo⟩
def rSlD (K : PySem.W.Frag) : V → Option Int → Option Int → Hp → VK → Prop := fun x lo hi H Q => ∃ Z S d, RS ⟨K, Z⟩ S H ∧ Rp ⟨K, Z⟩ S H d x ∧ fSl d lo hi S (PQ ⟨K, Z⟩ S H Q)
theorem slD : SlR X (rSlD X.K) := by
  intro pins s σ H x v vl vu lo hi sl Q I rx hs pl pu h
  obtain ⟨Z, S, d, rs, r, q⟩ := h
  cases r with
  | tup hq ha =>
    refine sl_tupA pins s σ H _ v vl vu lo hi sl Q I rx hs pl pu ⟨_, _, rfl, hq, fun e => ?_, fun _ p hp => ?_⟩
    · have z := q (.ref _) H (.refl rs) (.tup hq (by rw [← cutV_all e]; exact cut_rp ha))
      exact z
    · obtain ⟨a2, r2⟩ := Rp.newT rs hp (cut_rp (lo := lo) (hi := hi) ha)
      exact q _ _ a2 r2
  | lst hq hn hz ha => exact sl_list pins s σ H _ v vl vu lo hi sl Q I rx hs pl pu ⟨_, _, rfl, .inl hq, fun p hp => by
      obtain ⟨a2, r2⟩ := Rp.newL rs hp (cut_rp (lo := lo) (hi := hi) ha)
      exact q _ _ a2 r2⟩
  | lstK hq ha => exact sl_list pins s σ H _ v vl vu lo hi sl Q I rx hs pl pu ⟨_, _, rfl, SqL.ofK hq, fun p hp => by
      obtain ⟨a2, r2⟩ := Rp.newL rs hp (cut_rp (lo := lo) (hi := hi) ha)
      exact q _ _ a2 r2⟩
  | ref a =>
    unfold fSl at q; dsimp only at q
    split at q <;> first | exact q.elim | skip
    rename_i ds e0
    obtain ⟨vs, hl, ha⟩ := rs.at_ a ds e0
    exact sl_list pins s σ H _ v vl vu lo hi sl Q I rx hs pl pu ⟨_, _, rfl, SqL.of hl, fun p hp => by
      obtain ⟨a2, r2⟩ := Rp.newL rs hp (cut_rp (lo := lo) (hi := hi) ha)
      exact q _ _ a2 r2⟩
  | str z => exact sl_str pins s σ H _ v vl vu lo hi sl Q I rx hs pl pu ⟨_, rfl, q.1, q.2 _ H (.refl rs) (.str _)⟩
  | _ => exact q.elim
theorem je_sl (ha : JE X W e t) (hl : JO X W lo tl) (hh : JO X W hi th) : JE X W (.Subscript e (.Slice lo hi none p2) pos) (dSl t tl th) := by
  refine ⟨PE.imp (pe_slice slD ha.pe hl.po hh.po) fun σ H Q h => ?_, moSl ha.mo hl.mo hh.mo⟩
  obtain ⟨Z, env, S, re, rs, q⟩ := h
  refine LE.of ha.mo re rs q (fun d S1 x H1 q1 a1 r1 => ?_) fun x S1 c dx H1 q1 a1 r1 => q1 c dx H1 a1 r1
  refine LO.of hl.mo (re.step a1.st rs) a1.rs q1 (fun l S2 H2 q2 a2 => ?_) fun x S2 c dx H2 q2 a2 r2 => q2 c dx H2 (a1.trans a2) r2
  have a12 := a1.trans a2
  refine LO.of hh.mo (re.step a12.st rs) a2.rs q2 (fun u S3 H3 q3 a3 => ?_) fun x S3 c dx H3 q3 a3 r3 => q3 c dx H3 (a12.trans a3) r3
  exact ⟨Z, S3, d, a3.rs, Rp.step a3.st a2.rs _ _ (Rp.step a2.st a1.rs _ _ r1), moFSl (fun d S4 q4 => PQ.after (a12.trans a3) q4) q3⟩
end
end Bl

namespace Bl
open PySem PySem.Spec PyProof.Rows L2

/-! ### defs -/
/-- a def's promise, by data -/
def LSp (K : PySem.W.Frag) (n : Nat) (m : TFd) : Sp := fun vs H Q E => ∃ Z ds S, ds.length = n ∧ RpL ⟨K, Z⟩ S H ds vs ∧ RS ⟨K, Z⟩ S H ∧ m ds S (PQ ⟨K, Z⟩ S H Q) fun x S' => ∀ c dx H', Aft ⟨K, Z⟩ S H S' H' → RX ⟨K, Z⟩ S' H' x c dx → E c dx H'
/-- the def x, called by np places and the keywords ks; gD puts the values into the parameters' order -/
structure JF (P : Program) (w : World) (K : PySem.W.Frag) (mg : Str → Option Value) (base : Heap) (x : Str) (np : Nat) (ks : List Str) (gD : List D → List D → List D) (k : Nat) (m : TFd) : Prop where
  ex : ∃ (f : Addr) (fd : FuncData) (ps : List Str) (g : List Value → List Value → List Value) (gV : List V → List V → List V), mg x = some (.ref f) ∧ PySem.W.keepIn K (.ref f) = true ∧ FnOk P w K mg base (L2.CX P w) k f fd ps (LSp K ps.length m) ∧ KBn K fd ps np ks g gV ∧
    ∀ (Z : Addr → Prop) S H ds zs vs ws, RpL ⟨K, Z⟩ S H ds vs → RpL ⟨K, Z⟩ S H zs ws → ds.length = np → zs.length = ks.length → RpL ⟨K, Z⟩ S H (gD ds zs) (gV vs ws) ∧ (gD ds zs).length = ps.length
  mo : MoF m
/-- a call: the values by places, then those by keywords -/
def dCall (m : TFd) (np nk : Nat) (gD : List D → List D → List D) (ta tk : TAd) : TEd := fun env S Q E => ta env S (fun ds S1 => tk env S1 (fun zs S2 => ds.length = np ∧ zs.length = nk ∧ m (gD ds zs) S2 Q E) E) E
theorem moCall {m : TFd} {np nk : Nat} {gD : List D → List D → List D} {ta tk : TAd} (hm : MoF m) (ha : MoE ta) (hk : MoE tk) : MoE (dCall m np nk gD ta tk) := fun env S Q Q' E E' h he q =>
  ha _ _ _ _ _ _ (fun ds S1 q1 => hk _ _ _ _ _ _ (fun zs S2 q2 => ⟨q2.1, q2.2.1, hm _ _ _ _ _ _ h he q2.2.2⟩) he q1) he q
structure JK (X : Cx) (W : WX) (kws : List Keyword) (t : TAd) : Prop where
  pk : PK X kws (LA X.K W t)
  mo : MoE t
section
variable {X : Cx} {W : WX} {e : Expr} {es : List Expr} {t : TEd} {u : TAd} {pos kpos : Pos} {nm : Option Str} {kws : List Keyword}
theorem jk_nil : JK X W [] aNil := ⟨⟨fun pos pins s σ H Q I h => by
  obtain ⟨Z, env, S, re, rs, q⟩ := h
  exact pk_nil.run pos pins s σ H Q I (q [] H (.refl rs) .nil)⟩, moNilA⟩
theorem jk_cons (ha : JE X W e t) (hr : JK X W kws u) : JK X W (⟨nm, e, kpos⟩ :: kws) (aCons t u) :=
  ⟨⟨fun pos pins s σ H Q I h => (pk_cons ha.pe hr.pk).run pos pins s σ H Q I (LA.cons ha.mo hr.mo h)⟩, moConsA ha.mo hr.mo⟩
theorem run_fnG {k np : Nat} {f : Addr} {fd : FuncData} {ps ks : List Str} {sp : Sp} {E : XK} {g : List Value → List Value → List Value} {gV : List V → List V → List V} {pins : List (Addr × Obj)} {σ : L2.St} {H : Hp} {s : Shared} {Q : VK} {us ws : List Value} {vs zs : List V}
    (F : FnOk X.prog X.w X.K X.mg X.base (L2.CX X.prog X.w) k f fd ps sp) (hr : Room k X.A) (hb : KBn X.K fd ps np ks g gV) (hx : PassesAt (L2.CX X.prog X.w) X σ E)
    (I : Inv X pins σ H s) (r : Vals vs us) (rz : Vals zs ws) (l1 : vs.length = np) (l2 : zs.length = ks.length) (h : sp (gV vs zs) H Q E) : wpAny (model X.prog X.w) X.A (call (.ref f) us (ks.zip ws)) (EP X pins σ Q) X.xe s := by
  refine wpAny_call (codeAny_mono (F.run X.A X.stack s H ⟨us, ks.zip ws⟩ (g us ws) (gV vs zs) Q E hr I.env0 (hb.to s us ws I.kIn (r.length.symm.trans l1) (rz.length.symm.trans l2)) (hb.rel r rz) h) fun r s' hq => ?_)
  cases r with
  | error e => exact hx pins H s e s' I hq
  | ok fl =>
    cases fl with
    | ret u => exact I.after hq
    | next => exact False.elim hq
    | brk => exact False.elim hq
    | cont => exact False.elim hq
variable {P : Program} {w : World} {K : PySem.W.Frag} {mg : Str → Option Value} {base : Heap} {N : List Str} {sc : Scope} {vw : Vw} {k j : Nat} {x : Str} {np : Nat} {ks : List Str} {gD : List D → List D → List D} {m : TFd} {tk : TAd} {p : Pos}
/-- the callee's promise from the arguments -/
theorem call_sp {K : PySem.W.Frag} {Z : Addr → Prop} {S S2 : Sto} {H H2 : Hp} {σ : L2.St} {Q : VK} {n : Nat} {ds : List D} {vs : List V} (hm : MoF m) (a2 : Aft ⟨K, Z⟩ S H S2 H2) (r : RpL ⟨K, Z⟩ S2 H2 ds vs) (hl : ds.length = n) (h : m ds S2 (PQ ⟨K, Z⟩ S H Q) (PX ⟨K, Z⟩ S H σ W)) :
    LSp K n m vs H2 Q (WE W σ) :=
  ⟨Z, ds, S2, hl, r, a2.rs, hm _ _ _ _ _ _ (fun d S3 q => PQ.after a2 q) (fun x S3 q c dx H' a3 rx => q c dx H' (a2.trans a3) rx) h⟩
/-- f(e, .., k = v, ..) -/
theorem je_callK (c : JC P w K mg base N sc vw k X W) (F : JF P w K mg base x np ks gD j m) (hj : j ≤ k) (hx : x ∈ vw.gs) (ha : JA X W (e :: es) u) (hk : JK X W kws tk)
    (hall : (backToKw pos (keywordEach kws X.env)).all (·.1.isSome) = true := by rfl) (hks : (backToKw pos (keywordEach kws X.env)).filterMap (·.1) = ks := by rfl) (he : starEach (e :: es) X.env = (false, eval e X.env) :: starEach es X.env := by rfl)
    (hpl : ((backTo pos (starEach (e :: es) X.env)).any (·.1) || (backToKw pos (keywordEach kws X.env)).any (·.1.isNone)) = false := by rfl) :
    JE X W (.Call (.Name x p) (e :: es) kws pos) (dCall m np ks.length gD u tk) := by
  obtain ⟨rfl, rfl, rfl, rfl, rfl, rfl, rfl⟩ : X.prog = P ∧ X.w = w ∧ X.K = K ∧ X.mg = mg ∧ X.base = base ∧ X.N = N ∧ X.env.scope = sc := ⟨c.prog, c.ww, c.kk, c.gg, c.bb, c.nn, c.ss⟩
  obtain ⟨f, fd, ps, g, gV, hm, hkp, FF, hb, rel⟩ := F.ex
  refine ⟨⟨fun pins s σ H Q I h => ?_⟩, moCall F.mo ha.mo hk.mo⟩
  obtain ⟨Z, env, S, re, rs, q⟩ := h
  refine wpAny_Call_Name_kw (ld_glob I (c.gl hx) hm ?_ (c.sC.gl x hx).2.2)
  refine PySem.W.callWith_KW (h₀ := X.base) I.ok.mod.kin hkp hall (thn (ha.pa.run pos pins s σ H _ I (LA.of ha.mo re rs q (R := fun vs H1 => ∃ ds S1, Aft ⟨X.K, Z⟩ S H S1 H1 ∧ RpL ⟨X.K, Z⟩ S1 H1 ds vs ∧ tk env S1 _ _) (fun ds S1 vs H1 q1 a1 r1 => ⟨ds, S1, a1, r1, q1⟩) fun x S1 c dx H1 q1 a1 r1 => q1 c dx H1 a1 r1)) fun us s1 ⟨vs, H1, I1, r, ds, S1, a1, r1, q1⟩ => ?_) hpl he
  refine thn (hk.pk.run pos pins s1 σ H1 _ I1 (LA.of hk.mo (re.step a1.st rs) a1.rs q1 (R := fun ws H2 => ∃ zs S2, Aft ⟨X.K, Z⟩ S1 H1 S2 H2 ∧ RpL ⟨X.K, Z⟩ S2 H2 zs ws ∧ ds.length = np ∧ zs.length = ks.length ∧ m (gD ds zs) S2 _ _) (fun zs S2 ws H2 q2 a2 r2 => ⟨zs, S2, a2, r2, q2⟩) fun x S2 c dx H2 q2 a2 r2 => q2 c dx H2 (a1.trans a2) r2)) fun ws s2 ⟨zv, H2, I2, rz, zs, S2, a2, r2, l1, l2, q2⟩ => ⟨I2.kIn, ?_⟩
  rw [hks]
  have r1' := RpL.step a2.st a1.rs _ _ r1
  obtain ⟨rr, ll⟩ := rel Z S2 H2 ds zs vs zv r1' r2 l1 l2
  exact run_fnG FF (c.room.mono hj) hb (passAt c.tk σ) I2 r rz (by rw [← r1.length]; exact l1) (by rw [← r2.length]; exact l2) (call_sp F.mo (a1.trans a2) rr ll q2)
/-- f(e, ..) -/
theorem je_call (c : JC P w K mg base N sc vw k X W) (F : JF P w K mg base x np [] gD j m) (hj : j ≤ k) (hx : x ∈ vw.gs) (ha : JA X W (e :: es) u) (he : starEach (e :: es) X.env = (false, eval e X.env) :: starEach es X.env := by rfl)
    (hpl : (backTo pos (starEach es X.env)).any (·.1) = false := by rfl) : JE X W (.Call (.Name x p) (e :: es) [] pos) (dCall m np 0 gD u aNil) := by
  obtain ⟨rfl, rfl, rfl, rfl, rfl, rfl, rfl⟩ : X.prog = P ∧ X.w = w ∧ X.K = K ∧ X.mg = mg ∧ X.base = base ∧ X.N = N ∧ X.env.scope = sc := ⟨c.prog, c.ww, c.kk, c.gg, c.bb, c.nn, c.ss⟩
  obtain ⟨f, fd, ps, g, gV, hm, hkp, FF, hb, rel⟩ := F.ex
  refine ⟨⟨fun pins s σ H Q I h => ?_⟩, moCall F.mo ha.mo moNilA⟩
  obtain ⟨Z, env, S, re, rs, q⟩ := h
  refine wpAny_Call_Name_kw (ld_glob I (c.gl hx) hm ?_ (c.sC.gl x hx).2.2)
  refine PySem.W.callWith_K (h₀ := X.base) I.ok.mod.kin hkp (thn (ha.pa.run pos pins s σ H _ I (LA.of ha.mo re rs q (R := fun vs H1 => ∃ ds S1, Aft ⟨X.K, Z⟩ S H S1 H1 ∧ RpL ⟨X.K, Z⟩ S1 H1 ds vs ∧ ds.length = np ∧ ([] : List D).length = 0 ∧ m (gD ds []) S1 _ _) (fun ds S1 vs H1 q1 a1 r1 => ⟨ds, S1, a1, r1, q1⟩) fun x S1 c dx H1 q1 a1 r1 => q1 c dx H1 a1 r1)) fun us s1 ⟨vs, H1, I1, r, ds, S1, a1, r1, l1, l2, q1⟩ => ⟨I1.kIn, ?_⟩) he hpl
  obtain ⟨rr, ll⟩ := rel Z S1 H1 ds [] vs [] r1 .nil l1 rfl
  exact run_fnG (ws := []) (zs := []) FF (c.room.mono hj) hb (passAt c.tk σ) I1 r .nil (by rw [← r1.length]; exact l1) rfl (call_sp F.mo a1 rr ll q1)
end

/-! ### what is built in -/
abbrev GB := List D → Sto → DK → Prop
def rC (K : PySem.W.Frag) (g : GB) : List V → Hp → VK → Prop := fun vs H Q => ∃ Z S ds, RS ⟨K, Z⟩ S H ∧ RpL ⟨K, Z⟩ S H ds vs ∧ g ds S (PQ ⟨K, Z⟩ S H Q)
structure CallD (X : Cx) (f : Value) (g : GB) : Prop where
  mo : ∀ ds S (Q Q' : DK), (∀ d S, Q d S → Q' d S) → g ds S Q → g ds S Q'
  run : CallR X f (rC X.K g)
def dB (g : GB) (ta : TAd) : TEd := fun env S Q E => ta env S (fun ds S1 => g ds S1 Q) E
section
variable {X : Cx} {W : WX} {e : Expr} {es : List Expr} {t : TEd} {u : TAd} {pos p : Pos} {x : Str} {g : GB} {id T : String}
variable {P : Program} {w : World} {K : PySem.W.Frag} {mg : Str → Option Value} {base : Heap} {N : List Str} {sc : Scope} {vw : Vw} {k : Nat}
theorem dB_imp {K : PySem.W.Frag} {g : GB} (hg : ∀ ds S (Q Q' : DK), (∀ d S, Q d S → Q' d S) → g ds S Q → g ds S Q') (hu : MoE u) {σ : L2.St} {H : Hp} {Q : VK} (h : LE K W (dB g u) σ H Q) : tCB (rC K g) (LA K W u) σ H Q := by
  obtain ⟨Z, env, S, re, rs, q⟩ := h
  refine LA.of hu re rs q (fun ds S1 vs H1 q1 a1 r1 => ?_) fun x S1 c dx H1 q1 a1 r1 => q1 c dx H1 a1 r1
  exact ⟨Z, S1, ds, a1.rs, r1, hg _ _ _ _ (fun d S2 q2 => PQ.after a1 q2) q1⟩
theorem moB {g : GB} (hg : ∀ ds S (Q Q' : DK), (∀ d S, Q d S → Q' d S) → g ds S Q → g ds S Q') (hu : MoE u) : MoE (dB g u) := fun env S Q Q' E E' h he q => hu _ _ _ _ _ _ (fun ds S1 q1 => hg _ _ _ _ h q1) he q
theorem je_callB (c : JC P w K mg base N sc vw k X W) (hc : CallD X (.builtin id) g) (hx : x ∈ vw.gs) (hm : mg x = none) (hv : bootBuiltins x = some (.builtin id)) (ha : JA X W (e :: es) u) (he : starEach (e :: es) X.env = (false, eval e X.env) :: starEach es X.env := by rfl)
    (hpl : (backTo pos (starEach es X.env)).any (·.1) = false := by rfl) : JE X W (.Call (.Name x p) (e :: es) [] pos) (dB g u) :=
  ⟨PE.imp (pe_callB hc.run (c.gl hx) (by rw [c.gg]; exact hm) hv ha.pa (c.sC.gl x hx).2.1 (c.sC.gl x hx).2.2 he hpl) fun σ H Q h => dB_imp hc.mo ha.mo h, moB hc.mo ha.mo⟩
theorem je_callTy (c : JC P w K mg base N sc vw k X W) (hc : CallD X (.type T) g) (hx : x ∈ vw.gs) (hm : mg x = none) (hv : bootBuiltins x = some (.type T)) (ha : JA X W (e :: es) u) (he : starEach (e :: es) X.env = (false, eval e X.env) :: starEach es X.env := by rfl)
    (hpl : (backTo pos (starEach es X.env)).any (·.1) = false := by rfl) : JE X W (.Call (.Name x p) (e :: es) [] pos) (dB g u) :=
  ⟨PE.imp (pe_callTy hc.run (c.gl hx) (by rw [c.gg]; exact hm) hv ha.pa (c.sC.gl x hx).2.1 (c.sC.gl x hx).2.2 he hpl) fun σ H Q h => dB_imp hc.mo ha.mo h, moB hc.mo ha.mo⟩
end
def bAbs : GB := fun ds S Q => match ds with
  | [.int i] => Q (.int (if i < 0 then -i else i)) S
  | _ => False
def bLen : GB := fun ds S Q => match ds with
  | [.tup xs] => Q (.int xs.length) S
  | [.lst xs] => Q (.int xs.length) S
  | [.ref a] => match S a with | some xs => Q (.int xs.length) S | none => False
  | [.str x] => x.length ≤ sizeLine ∧ Q (.int x.length) S
  | _ => False
def bMax : GB := fun ds S Q => match ds with
  | [.int i, .int j] => Q (.int (if j > i then j else i)) S
  | _ => False
def bMin : GB := fun ds S Q => match ds with
  | [.int i, .int j] => Q (.int (if j < i then j else i)) S
  | _ => False
def bInt : GB := fun ds S Q => match ds with
  | [.int i] => Q (.int i) S
  | [.bl b] => Q (.int (if b then 1 else 0)) S
  | _ => False
def bTup : GB := fun ds S Q => match ds with
  | [.tup xs] => Q (.tup xs) S
  | [.lst xs] => Q (.tup xs) S
  | [.ref a] => match S a with | some xs => Q (.tup xs) S | none => False
  | _ => False
def bLst : GB := fun ds S Q => match ds with
  | [.tup xs] => Q (.lst xs) S
  | [.lst xs] => Q (.lst xs) S
  | [.ref a] => match S a with | some xs => Q (.lst xs) S | none => False
  | _ => False
def blsOf : List D → Option (List Bool)
  | [] => some []
  | .bl b :: ds => (blsOf ds).map (b :: ·)
  | _ => none
def bAll : GB := fun ds S Q => match ds with
  | [.lst xs] => match blsOf xs with | some bs => Q (.bl (bs.all id)) S | none => False
  | _ => False
section
variable {X : Cx}
theorem RpL.one {K : Kz} {S : Sto} {H : Hp} {d : D} {vs : List V} (h : RpL K S H [d] vs) : ∃ v, vs = [v] ∧ Rp K S H d v := by
  cases h with
  | cons a b => cases b; exact ⟨_, rfl, a⟩
theorem RpL.two {K : Kz} {S : Sto} {H : Hp} {d e : D} {vs : List V} (h : RpL K S H [d, e] vs) : ∃ v w, vs = [v, w] ∧ Rp K S H d v ∧ Rp K S H e w := by
  cases h with
  | cons a b =>
    cases b with
    | cons b c => cases c; exact ⟨_, _, rfl, a, b⟩
/-- a datum that is a list -/
theorem Rp.sqL {K : Kz} {S : Sto} {H : Hp} {xs : List D} {v : V} (h : Rp K S H (.lst xs) v) : ∃ a vs, v = .ref a ∧ SqL K.K H a vs ∧ RpL K S H xs vs := by
  cases h with
  | lst h1 h2 h3 h4 => exact ⟨_, _, rfl, .inl h1, h4⟩
  | lstK h1 h2 => exact ⟨_, _, rfl, SqL.ofK h1, h2⟩
theorem Rp.sqT {K : Kz} {S : Sto} {H : Hp} {xs : List D} {v : V} (h : Rp K S H (.tup xs) v) : ∃ a vs, v = .ref a ∧ SqT K.K H a vs ∧ RpL K S H xs vs := by
  cases h with
  | tup h1 h2 => exact ⟨_, _, rfl, h1, h2⟩
theorem Rp.sqR {K : Kz} {S : Sto} {H : Hp} {a : Addr} {xs : List D} (rs : RS K S H) (e : S a = some xs) : ∃ vs, SqL K.K H a vs ∧ RpL K S H xs vs := by
  obtain ⟨vs, h1, h2⟩ := rs.at_ a xs e
  exact ⟨vs, SqL.of h1, h2⟩
theorem cd_abs : CallD X (.builtin "abs") bAbs := by
  refine ⟨by (intro ds S Q Q' h q; unfold bAbs at q ⊢; split at q <;> first | exact h _ _ q | exact ⟨q.1, h _ _ q.2⟩ | exact q.elim | ((try dsimp only at q ⊢); split at q <;> first | exact h _ _ q | exact q.elim)), fun pins s σ H xs us Q I rv h => ?_⟩
  obtain ⟨Z, S, ds, rs, r, q⟩ := h
  unfold bAbs at q
  split at q <;> first | exact q.elim | skip
  obtain ⟨v, rfl, r1⟩ := r.one
  cases r1
  exact call_abs pins s σ H _ us Q I rv ⟨_, rfl, q _ H (.refl rs) (.int _)⟩
theorem cd_min (hc : X.calm = true) : CallD X (.builtin "min") bMin := by
  refine ⟨by (intro ds S Q Q' h q; unfold bMin at q ⊢; split at q <;> first | exact h _ _ q | exact ⟨q.1, h _ _ q.2⟩ | exact q.elim | ((try dsimp only at q ⊢); split at q <;> first | exact h _ _ q | exact q.elim)), fun pins s σ H xs us Q I rv h => ?_⟩
  obtain ⟨Z, S, ds, rs, r, q⟩ := h
  unfold bMin at q
  split at q <;> first | exact q.elim | skip
  obtain ⟨v, v2, rfl, r1, r2⟩ := r.two
  cases r1
  cases r2
  exact call_min2 hc pins s σ H _ us Q I rv ⟨_, _, rfl, q _ H (.refl rs) (.int _)⟩
theorem cd_int : CallD X (.type "int") bInt := by
  refine ⟨by (intro ds S Q Q' h q; unfold bInt at q ⊢; split at q <;> first | exact h _ _ q | exact ⟨q.1, h _ _ q.2⟩ | exact q.elim | ((try dsimp only at q ⊢); split at q <;> first | exact h _ _ q | exact q.elim)), fun pins s σ H xs us Q I rv h => ?_⟩
  obtain ⟨Z, S, ds, rs, r, q⟩ := h
  unfold bInt at q
  split at q <;> first | exact q.elim | skip
  · obtain ⟨v, rfl, r1⟩ := r.one
    cases r1
    exact call_int1 pins s σ H _ us Q I rv (.inl ⟨_, rfl, q _ H (.refl rs) (.int _)⟩)
  · obtain ⟨v, rfl, r1⟩ := r.one
    cases r1
    exact call_int1 pins s σ H _ us Q I rv (.inr ⟨_, rfl, q _ H (.refl rs) (.int _)⟩)
theorem cd_len : CallD X (.builtin "len") bLen := by
  refine ⟨by (intro ds S Q Q' h q; unfold bLen at q ⊢; split at q <;> first | exact h _ _ q | exact ⟨q.1, h _ _ q.2⟩ | exact q.elim | ((try dsimp only at q ⊢); split at q <;> first | exact h _ _ q | exact q.elim)), fun pins s σ H xs us Q I rv h => ?_⟩
  obtain ⟨Z, S, ds, rs, r, q⟩ := h
  unfold bLen at q
  split at q <;> first | exact q.elim | skip
  · obtain ⟨v, rfl, r1⟩ := r.one
    obtain ⟨a, vs, rfl, hs, hl⟩ := r1.sqT
    exact call_len_seq pins s σ H _ us Q I rv ⟨a, vs, rfl, .inr hs, by rw [← hl.length]; exact q _ H (.refl rs) (.int _)⟩
  · obtain ⟨v, rfl, r1⟩ := r.one
    obtain ⟨a, vs, rfl, hs, hl⟩ := r1.sqL
    exact call_len_seq pins s σ H _ us Q I rv ⟨a, vs, rfl, .inl hs, by rw [← hl.length]; exact q _ H (.refl rs) (.int _)⟩
  · obtain ⟨v, rfl, r1⟩ := r.one
    cases r1
    try dsimp only at q
    split at q <;> first | exact q.elim | skip
    rename_i e
    obtain ⟨vs, hs, hl⟩ := Rp.sqR rs e
    exact call_len_seq pins s σ H _ us Q I rv ⟨_, vs, rfl, .inl hs, by rw [← hl.length]; exact q _ H (.refl rs) (.int _)⟩
  · obtain ⟨v, rfl, r1⟩ := r.one
    cases r1
    exact call_len_str pins s σ H _ us Q I rv ⟨_, rfl, q.1, q.2 _ H (.refl rs) (.int _)⟩
theorem cd_tup : CallD X (.type "tuple") bTup := by
  refine ⟨by (intro ds S Q Q' h q; unfold bTup at q ⊢; split at q <;> first | exact h _ _ q | exact ⟨q.1, h _ _ q.2⟩ | exact q.elim | ((try dsimp only at q ⊢); split at q <;> first | exact h _ _ q | exact q.elim)), fun pins s σ H xs us Q I rv h => ?_⟩
  obtain ⟨Z, S, ds, rs, r, q⟩ := h
  unfold bTup at q
  split at q <;> first | exact q.elim | skip
  · obtain ⟨v, rfl, r1⟩ := r.one
    obtain ⟨a, vs, rfl, hs, hl⟩ := r1.sqT
    exact call_tuple_of pins s σ H _ us Q I rv ⟨a, vs, rfl, .inr ⟨hs, q _ H (.refl rs) r1⟩⟩
  · obtain ⟨v, rfl, r1⟩ := r.one
    obtain ⟨a, vs, rfl, hs, hl⟩ := r1.sqL
    exact call_tuple_of pins s σ H _ us Q I rv ⟨a, vs, rfl, .inl ⟨hs, fun l hn => by
      obtain ⟨a2, r2⟩ := Rp.newT rs hn hl
      exact q _ _ a2 r2⟩⟩
  · obtain ⟨v, rfl, r1⟩ := r.one
    cases r1
    try dsimp only at q
    split at q <;> first | exact q.elim | skip
    rename_i e
    obtain ⟨vs, hs, hl⟩ := Rp.sqR rs e
    exact call_tuple_of pins s σ H _ us Q I rv ⟨_, vs, rfl, .inl ⟨hs, fun l hn => by
      obtain ⟨a2, r2⟩ := Rp.newT rs hn hl
      exact q _ _ a2 r2⟩⟩
theorem cd_lst : CallD X (.type "list") bLst := by
  refine ⟨by (intro ds S Q Q' h q; unfold bLst at q ⊢; split at q <;> first | exact h _ _ q | exact ⟨q.1, h _ _ q.2⟩ | exact q.elim | ((try dsimp only at q ⊢); split at q <;> first | exact h _ _ q | exact q.elim)), fun pins s σ H xs us Q I rv h => ?_⟩
  obtain ⟨Z, S, ds, rs, r, q⟩ := h
  unfold bLst at q
  split at q <;> first | exact q.elim | skip
  · obtain ⟨v, rfl, r1⟩ := r.one
    obtain ⟨a, vs, rfl, hs, hl⟩ := r1.sqT
    exact call_list_of pins s σ H _ us Q I rv ⟨a, vs, rfl, .inr hs, fun l hn => by
      obtain ⟨a2, r2⟩ := Rp.newL rs hn hl
      exact q _ _ a2 r2⟩
  · obtain ⟨v, rfl, r1⟩ := r.one
    obtain ⟨a, vs, rfl, hs, hl⟩ := r1.sqL
    exact call_list_of pins s σ H _ us Q I rv ⟨a, vs, rfl, .inl hs, fun l hn => by
      obtain ⟨a2, r2⟩ := Rp.newL rs hn hl
      exact q _ _ a2 r2⟩
  · obtain ⟨v, rfl, r1⟩ := r.one
    cases r1
    try dsimp only at q
    split at q <;> first | exact q.elim | skip
    rename_i e
    obtain ⟨vs, hs, hl⟩ := Rp.sqR rs e
    exact call_list_of pins s σ H _ us Q I rv ⟨_, vs, rfl, .inl hs, fun l hn => by
      obtain ⟨a2, r2⟩ := Rp.newL rs hn hl
      exact q _ _ a2 r2⟩
theorem bls_rp {K : Kz} {S : Sto} {H : Hp} : ∀ {xs : List D} {bs : List Bool} {vs : List V}, RpL K S H xs vs → blsOf xs = some bs → vs = bs.map V.bl
  | [], _, _, h, e => by
    cases h
    cases e
    rfl
  | d :: ds, bs, _, h, e => by
    cases h with
    | cons h1 h2 =>
      cases d <;> first | cases e | skip
      rename_i b
      unfold blsOf at e
      cases e2 : blsOf ds with
      | none => rw [e2] at e; cases e
      | some cs =>
        rw [e2] at e
        cases e
        cases h1
        rw [bls_rp h2 e2]
        rfl
theorem cd_all (hc : X.calm = true) : CallD X (.builtin "all") bAll := by
  refine ⟨by (intro ds S Q Q' h q; unfold bAll at q ⊢; split at q <;> first | exact h _ _ q | exact ⟨q.1, h _ _ q.2⟩ | exact q.elim | ((try dsimp only at q ⊢); split at q <;> first | exact h _ _ q | exact q.elim)), fun pins s σ H xs us Q I rv h => ?_⟩
  obtain ⟨Z, S, ds, rs, r, q⟩ := h
  unfold bAll at q
  split at q <;> first | exact q.elim | skip
  obtain ⟨v, rfl, r1⟩ := r.one
  obtain ⟨a, vs, rfl, hs, hl⟩ := r1.sqL
  split at q <;> first | exact q.elim | skip
  rename_i bs e
  exact cr_all hc pins s σ H _ us Q I rv ⟨a, bs, rfl, by rw [← bls_rp hl e]; exact hs, q _ H (.refl rs) (.bl _)⟩
end

/-! ### isinstance, a built-in class -/
def tyN : D → Option String
  | .non => some "NoneType"
  | .bl _ => some "bool"
  | .int _ => some "int"
  | .str _ => some "str"
  | .tup _ => some "tuple"
  | .lst _ => some "list"
  | _ => none
def isiD (T : String) (d : D) : Option Bool := (tyN d).bind fun a => kitB a T
def dIsi (T : String) (t : TEd) : TEd := fun env S Q E => t env S (fun d S1 => match isiD T d with | some b => Q (.bl b) S1 | none => False) E
theorem moIsi {T : String} {t : TEd} (h : MoE t) : MoE (dIsi T t) := fun env S Q Q' E E' hq he q => h _ _ _ _ _ _ (fun d S1 q1 => by
  split at q1
  · exact hq _ _ q1
  · exact q1.elim) he q
section
variable {X : Cx} {W : WX} {e : Expr} {t : TEd} {pos p q : Pos} {x y : Str} {T : String}
variable {P : Program} {w : World} {K : PySem.W.Frag} {mg : Str → Option Value} {base : Heap} {N : List Str} {sc : Scope} {vw : Vw} {k : Nat}
end
end Bl

namespace Bl
open PySem PySem.Spec PyProof.Rows L2

/-! ### targets -/
inductive Tg where
  | nm (i : Nat)
  | tp (ts : List Tg)
def itemsOf (S : Sto) : D → Option (List D)
  | .tup ds => some ds
  | .lst ds => some ds
  | .ref a => S a
  | _ => none
mutual
def asgT (S : Sto) : Tg → D → Ev → Option Ev
  | .nm i, d, env => some (env.set i (some d))
  | .tp ts, d, env => match itemsOf S d with
    | some ds => asgL S ts ds env
    | none => none
def asgL (S : Sto) : List Tg → List D → Ev → Option Ev
  | [], [], env => some env
  | t :: ts, d :: ds, env => match asgT S t d env with
    | some env1 => asgL S ts ds env1
    | none => none
  | _, _, _ => none
end
mutual
def tgS : Tg → List Nat
  | .nm i => [i]
  | .tp ts => tgsS ts
def tgsS : List Tg → List Nat
  | [] => []
  | t :: ts => tgS t ++ tgsS ts
end
theorem asgL_len {S : Sto} : ∀ {ts : List Tg} {ds : List D} {env env' : Ev}, asgL S ts ds env = some env' → ds.length = ts.length
  | [], [], _, _, _ => rfl
  | [], _ :: _, _, _, h => by unfold asgL at h; cases h
  | _ :: _, [], _, _, h => by unfold asgL at h; cases h
  | t :: ts, d :: ds, env, env', h => by
    unfold asgL at h
    split at h
    · exact congrArg Nat.succ (asgL_len h)
    · cases h
theorem wipe_in {σ : L2.St} {i : Nat} {x : Option V} : ∀ {vs : List Nat}, i ∈ vs → wipe (σ.set i x) vs = wipe σ vs
  | v :: vs, h => by
    unfold wipe
    by_cases hv : i ∈ vs
    · rw [wipe_in hv]
    · have e : v = i := by
        rcases List.mem_cons.mp h with e | e
        · exact e.symm
        · exact absurd e hv
      subst e
      have : ∀ ws : List Nat, v ∉ ws → wipe (σ.set v x) ws = (wipe σ ws).set v x := by
        intro ws
        induction ws with
        | nil => intro _; rfl
        | cons u us ih =>
          intro hn
          have h1 : v ≠ u := fun z => hn (by simp [z])
          have h2 : v ∉ us := fun z => hn (by simp [z])
          unfold wipe
          rw [ih h2, List.set_comm _ _ h1]
      rw [this vs hv, List.set_set]
def LG (K : PySem.W.Frag) (g : Tg) : TG := fun v σ H Q => ∃ Z env S d env', RE ⟨K, Z⟩ S H env σ ∧ RS ⟨K, Z⟩ S H ∧ Rp ⟨K, Z⟩ S H d v ∧ asgT S g d env = some env' ∧
  ∀ σ', RE ⟨K, Z⟩ S H env' σ' → (∀ vs : List Nat, (∀ i ∈ tgS g, i ∈ vs) → wipe σ' vs = wipe σ vs) → Q σ' H
def LGs (K : PySem.W.Frag) (gs : List Tg) : TGs := fun us σ H Q => ∃ Z env S ds env', RE ⟨K, Z⟩ S H env σ ∧ RS ⟨K, Z⟩ S H ∧ RpL ⟨K, Z⟩ S H ds us ∧ asgL S gs ds env = some env' ∧
  ∀ σ', RE ⟨K, Z⟩ S H env' σ' → (∀ vs : List Nat, (∀ i ∈ tgsS gs, i ∈ vs) → wipe σ' vs = wipe σ vs) → Q σ' H
structure JG (X : Cx) (tg : Expr) (g : Tg) : Prop where
  pg : PG X tg (LG X.K g)
structure JGs (X : Cx) (tgs : List Expr) (gs : List Tg) : Prop where
  pg : PGs X tgs (LGs X.K gs)
section
variable {P : Program} {w : World} {K : PySem.W.Frag} {mg : Str → Option Value} {base : Heap} {N : List Str} {sc : Scope} {vw : Vw} {k : Nat} {X : Cx} {W : WX}
theorem JC.loc (c : JC P w K mg base N sc vw k X W) {x : Str} (h : sc.names.lookup x = some .local ∨ sc.names.lookup x = some .cell ∧ ∀ y, X.fn y = true) : Loc X.env.scope x ∧ (X.fn x = true ∨ X.env.scope.names.lookup x = some .local) := by
  rw [c.ss]
  rcases h with h | h
  · exact ⟨.inl h, .inr h⟩
  · exact ⟨.inr h.1, .inl (h.2 x)⟩
theorem jg_name (c : JC P w K mg base N sc vw k X W) (i : Nat) {x : Str} {pos : Pos} (hi : N[i]? = some x) (hx : sc.names.lookup x = some .local ∨ sc.names.lookup x = some .cell ∧ ∀ y, X.fn y = true) : JG X (.Name x pos) (.nm i) := by
  obtain ⟨l1, l2⟩ := c.loc hx
  refine ⟨⟨fun pins s σ H v u Q I r h => ?_⟩⟩
  obtain ⟨Z, env, S, d, env', re, rs, rp, e, q⟩ := h
  refine (pg_name (i := i) (by rw [c.nn]; exact c.nd) (by rw [c.nn]; exact hi) l1 l2).run pins s σ H v u Q I r (q _ ?_ fun vs hv => wipe_in (hv i (by simp [tgS])))
  unfold asgT at e
  cases e
  exact re.set rp i
theorem jgs_nil : JGs X [] [] := by
  refine ⟨⟨fun pins s σ H v u Q I r h => ?_⟩⟩
  obtain ⟨Z, env, S, ds, env', re, rs, rp, e, q⟩ := h
  cases ds with
  | cons d ds => unfold asgL at e; cases e
  | nil =>
    cases rp
    unfold asgL at e
    cases e
    exact pgs_nil.run pins s σ H [] u Q I r ⟨rfl, q σ re fun _ _ => rfl⟩
theorem jgs_cons {e : Expr} {es : List Expr} {g : Tg} {gt : List Tg} (h1 : JG X e g) (h2 : JGs X es gt) (hs : (assignEach (e :: es) X.env).map (·.2) = assign e X.env :: (assignEach es X.env).map (·.2) := by rfl) : JGs X (e :: es) (g :: gt) := by
  refine ⟨⟨fun pins s σ H v u Q I r h => ?_⟩⟩
  obtain ⟨Z, env, S, ds, env', re, rs, rp, e0, q⟩ := h
  cases ds with
  | nil => unfold asgL at e0; cases e0
  | cons d ds =>
    cases rp with
    | cons rp1 rp2 =>
      unfold asgL at e0
      split at e0 <;> first | cases e0; done | skip
      rename_i env1 e1
      refine (pgs_cons h1.pg h2.pg hs).run pins s σ H _ u Q I r ⟨_, _, rfl, Z, env, S, d, env1, re, rs, rp1, e1, fun σ1 re1 w1 => ?_⟩
      exact ⟨Z, env1, S, ds, env', re1, rs, rp2, e0, fun σ2 re2 w2 => q σ2 re2 fun vs hv => by
        rw [w2 vs fun i hi => hv i (by unfold tgsS; exact List.mem_append_right _ hi), w1 vs fun i hi => hv i (by unfold tgsS; exact List.mem_append_left _ hi)]⟩
theorem jg_tup {es : List Expr} {n : Nat} {gt : List Tg} {pos : Pos} (hc : X.calm = true) (h : JGs X es gt) (hn : (assignEach es X.env).length = gt.length := by rfl) (hst : (assignEach es X.env).findIdx? (·.1) = none := by rfl) : JG X (.Tuple es n pos) (.tp gt) := by
  refine ⟨⟨fun pins s σ H v u Q I r h2 => ?_⟩⟩
  obtain ⟨Z, env, S, d, env', re, rs, rp, e, q⟩ := h2
  unfold asgT at e
  split at e <;> first | cases e; done | skip
  rename_i ds e1
  have ln := asgL_len e
  have fin : ∀ vs, RpL ⟨X.K, Z⟩ S H ds vs → LGs X.K gt vs σ H Q := fun vs rl => ⟨Z, env, S, ds, env', re, rs, rl, e, fun σ' r' w' => q σ' r' fun vs hv => w' vs fun i hi => hv i (by unfold tgS; exact hi)⟩
  cases rp with
  | tup h1 h2 =>
    unfold itemsOf at e1
    cases e1
    exact (pg_tup hc h.pg hn hst).run pins s σ H _ u Q I r ⟨_, _, rfl, h1, by rw [← h2.length]; exact ln, fin _ h2⟩
  | lst h1 _ _ h2 =>
    unfold itemsOf at e1
    cases e1
    exact (pg_lst hc h.pg hn hst).run pins s σ H _ u Q I r ⟨_, _, rfl, .inl h1, by rw [← h2.length]; exact ln, fin _ h2⟩
  | lstK h1 h2 =>
    unfold itemsOf at e1
    cases e1
    exact (pg_lst hc h.pg hn hst).run pins s σ H _ u Q I r ⟨_, _, rfl, SqL.ofK h1, by rw [← h2.length]; exact ln, fin _ h2⟩
  | ref a =>
    unfold itemsOf at e1
    obtain ⟨vs, h1, h2⟩ := rs.at_ a ds e1
    exact (pg_lst hc h.pg hn hst).run pins s σ H _ u Q I r ⟨_, _, rfl, SqL.of h1, by rw [← h2.length]; exact ln, fin _ h2⟩
  | _ => unfold itemsOf at e1; cases e1
end

/-! ### blocks -/
def sNx : TSd := fun env S N => N.nx env S
def sSeq (t u : TSd) : TSd := fun env S N => t env S { N with nx := fun e S1 => u e S1 N }
def sRet (t : TEd) : TSd := fun env S N => t env S N.rt fun x S1 => N.ex x env S1
def sRetN : TSd := fun _ S N => N.rt .non S
def sDrop (t : TEd) : TSd := fun env S N => t env S (fun _ S1 => N.nx env S1) fun x S1 => N.ex x env S1
def sIf (c : TTd) (t u : TSd) : TSd := fun env S N => c env S (fun b S1 => if b = true then t env S1 N else u env S1 N) fun x S1 => N.ex x env S1
def sBrk : TSd := fun env S N => N.bk env S
def sCnt : TSd := fun env S N => N.ct env S
def sAsg (t : TEd) (g : Tg) : TSd := fun env S N => t env S (fun d S1 => match asgT S1 g d env with
  | some e => N.nx e S1
  | none => False) fun x S1 => N.ex x env S1
/-- a, b = x, y with plain local names -/
def sPar (is : List Nat) (t : TAd) : TSd := fun env S N => t env S (fun ds S1 => match asgL S1 (is.map .nm) ds env with
  | some e => N.nx e S1
  | none => False) fun x S1 => N.ex x env S1
def sAug (i : Nat) (t : TEd) (f : F2) : TSd := fun env S N => match env[i]? with
  | some (some x) => t env S (fun y S1 => f x y S1 fun z S2 => N.nx (env.set i (some z)) S2) fun x S1 => N.ex x env S1
  | _ => False
def setD (o i v : D) (S : Sto) (Q : Sto → Prop) : Prop := match o, i with
  | .ref a, .int k => match S a with
    | some ds => match ixN ds.length k with
      | some j => Q (sup S a (ds.set j v))
      | none => False
    | none => False
  | _, _ => False
def sSub (te to ti : TEd) : TSd := fun env S N => te env S (fun v S1 => to env S1 (fun o S2 => ti env S2 (fun i S3 => setD o i v S3 fun S4 => N.nx env S4) fun x S3 => N.ex x env S3) fun x S2 => N.ex x env S2) fun x S1 => N.ex x env S1
/-- a list is grown no more -/
def sFrz (i : Nat) (t : TSd) : TSd := fun env S N => match env[i]? with
  | some (some (.ref a)) => match S a with
    | some ds => t (env.set i (some (.lst ds))) (sdel S a) N
    | none => False
  | _ => False
def sWhile (c : TTd) (b : TSd) : TSd := fun env S N => ∃ Wi : Nat → Ev → Sto → Prop, (∃ m, Wi m env S) ∧ ∀ m env S, Wi m env S → c env S (fun k S1 => if k = true then b env S1 { N with nx := fun e s => ∃ m', m' < m ∧ Wi m' e s, ct := fun e s => ∃ m', m' < m ∧ Wi m' e s, bk := N.nx } else N.nx env S1) fun x S1 => N.ex x env S1
def forD (g : Tg) (b : TSd) : List D → Ev → Sto → Nd → Prop
  | [], env, S, N => N.nx env S
  | d :: ds, env, S, N => match asgT S g d env with
    | some e1 => b e1 S { N with nx := fun e s => forD g b ds e s N, ct := fun e s => forD g b ds e s N, bk := N.nx }
    | none => False
def sFor (ti : TAd) (g : Tg) (b : TSd) : TSd := fun env S N => ti env S (fun ds S1 => forD g b ds env S1 N) fun x S1 => N.ex x env S1

theorem NdLe.refl (A : Nd) : NdLe A A := ⟨fun _ _ h => h, fun _ _ h => h, fun _ _ h => h, fun _ _ h => h, fun _ _ _ h => h⟩
theorem moNx : MoS sNx := fun env S A B l h => l.nx _ _ h
theorem moSeq {t u : TSd} (ht : MoS t) (hu : MoS u) : MoS (sSeq t u) := fun env S A B l h => ht env S { A with nx := fun e S1 => u e S1 A } { B with nx := fun e S1 => u e S1 B } ⟨fun e S1 q => hu _ _ _ _ l q, l.rt, l.bk, l.ct, l.ex⟩ h
theorem moRet {t : TEd} (ht : MoE t) : MoS (sRet t) := fun env S A B l h => ht _ _ _ _ _ _ l.rt (fun x S1 q => l.ex _ _ _ q) h
theorem moDrop {t : TEd} (ht : MoE t) : MoS (sDrop t) := fun env S A B l h => ht _ _ _ _ _ _ (fun d S1 q => l.nx _ _ q) (fun x S1 q => l.ex _ _ _ q) h
theorem moIfS {c : TTd} {t u : TSd} (hc : MoE c) (ht : MoS t) (hu : MoS u) : MoS (sIf c t u) := fun env S A B l h => hc _ _ _ _ _ _ (fun b S1 q => by
  cases b
  · exact hu _ _ _ _ l q
  · exact ht _ _ _ _ l q) (fun x S1 q => l.ex _ _ _ q) h
theorem moAsg {t : TEd} {g : Tg} (ht : MoE t) : MoS (sAsg t g) := fun env S A B l h => ht _ _ _ _ _ _ (fun d S1 q => by
  split at q
  · exact l.nx _ _ q
  · exact q.elim) (fun x S1 q => l.ex _ _ _ q) h
theorem moPar {is : List Nat} {t : TAd} (ht : MoE t) : MoS (sPar is t) := fun env S A B l h => ht _ _ _ _ _ _ (fun d S1 q => by
  split at q
  · exact l.nx _ _ q
  · exact q.elim) (fun x S1 q => l.ex _ _ _ q) h
theorem moAug {i : Nat} {t : TEd} {f : F2} (ht : MoE t) (hf : MoF2 f) : MoS (sAug i t f) := fun env S A B l h => by
  unfold sAug at h ⊢
  split at h
  · exact ht _ _ _ _ _ _ (fun y S1 q => hf _ _ _ _ _ (fun z S2 q2 => l.nx _ _ q2) q) (fun x S1 q => l.ex _ _ _ q) h
  · exact h
theorem moSetD {o i v : D} {S : Sto} {Q Q' : Sto → Prop} (h : ∀ S, Q S → Q' S) (q : setD o i v S Q) : setD o i v S Q' := by
  unfold setD at q ⊢
  split at q <;> first | exact q.elim | skip
  split at q <;> first | exact q.elim | skip
  split at q <;> first | exact q.elim | exact h _ q
theorem moSub' {te to ti : TEd} (h1 : MoE te) (h2 : MoE to) (h3 : MoE ti) : MoS (sSub te to ti) := fun env S A B l h => h1 _ _ _ _ _ _ (fun v S1 q1 => h2 _ _ _ _ _ _ (fun o S2 q2 => h3 _ _ _ _ _ _ (fun i S3 q3 => moSetD (fun S4 q4 => l.nx _ _ q4) q3)
  (fun x S3 q => l.ex _ _ _ q) q2) (fun x S2 q => l.ex _ _ _ q) q1) (fun x S1 q => l.ex _ _ _ q) h
theorem moFrz {i : Nat} {t : TSd} (ht : MoS t) : MoS (sFrz i t) := fun env S A B l h => by
  unfold sFrz at h ⊢
  split at h <;> first | exact h.elim | skip
  split at h <;> first | exact h.elim | exact ht _ _ _ _ l h
theorem moWhile {c : TTd} {b : TSd} (hc : MoE c) (hb : MoS b) : MoS (sWhile c b) := fun env S A B l h => by
  obtain ⟨Wi, h0, turn⟩ := h
  refine ⟨Wi, h0, fun m env S hw => hc _ _ _ _ _ _ (fun k S1 q => ?_) (fun x S1 q => l.ex _ _ _ q) (turn m env S hw)⟩
  cases k
  · exact l.nx _ _ q
  · exact hb _ _ { A with nx := fun e s => ∃ m', m' < m ∧ Wi m' e s, ct := fun e s => ∃ m', m' < m ∧ Wi m' e s, bk := A.nx } _ ⟨fun _ _ z => z, l.rt, l.nx, fun _ _ z => z, l.ex⟩ q
theorem moForD {g : Tg} {b : TSd} (hb : MoS b) : ∀ (ds : List D) (env : Ev) (S : Sto) (A B : Nd), NdLe A B → forD g b ds env S A → forD g b ds env S B
  | [], env, S, A, B, l, h => l.nx _ _ h
  | d :: ds, env, S, A, B, l, h => by
    unfold forD at h ⊢
    split at h <;> first | exact h.elim | skip
    exact hb _ _ { A with nx := fun e s => forD g b ds e s A, ct := fun e s => forD g b ds e s A, bk := A.nx } _ ⟨fun e s q => moForD hb ds e s A B l q, l.rt, l.nx, fun e s q => moForD hb ds e s A B l q, l.ex⟩ h
theorem moFor {ti : TAd} {g : Tg} {b : TSd} (ht : MoE ti) (hb : MoS b) : MoS (sFor ti g b) := fun env S A B l h => ht _ _ _ _ _ _ (fun ds S1 q => moForD hb ds env S1 A B l q) (fun x S1 q => l.ex _ _ _ q) h

section
variable {P : Program} {w : World} {K : PySem.W.Frag} {mg : Str → Option Value} {base : Heap} {N : List Str} {sc : Scope} {vw : Vw} {k : Nat} {X : Cx} {W : WX}
variable {st : Stmt} {rest a b : List Stmt} {t u : TSd} {e o i : Expr} {te to ti : TEd} {tc : TTd} {pos pos' : Pos}
theorem jb_nil : JB X W [] sNx := ⟨PSs.imp pss_nil fun N σ H h => by
  obtain ⟨Z, env, S, re, rs, q⟩ := h
  exact q σ H (.refl rs) re, moNx⟩
theorem jb_cons (h1 : JS X W st t) (h2 : JB X W rest u) : JB X W (st :: rest) (sSeq t u) := by
  refine ⟨PSs.imp (pss_cons h1.ps h2.ps) fun N σ H h => ?_, moSeq h1.mo h2.mo⟩
  obtain ⟨Z, env, S, re, rs, q⟩ := h
  refine LS.of h1.mo re rs q ⟨fun e S1 q1 σ1 H1 a1 r1 => ?_, fun _ _ z => z, fun _ _ z => z, fun _ _ z => z, fun _ _ _ z => z⟩
  exact LS.of h2.mo r1 a1.rs q1 (LN.after a1 N)
theorem jb_one (h1 : JS X W st t) : JB X W [st] t := ⟨pss_one h1.ps, h1.mo⟩
/-- exceptions out of an expression of a statement -/
theorem exS {K : Kz} {S S1 : Sto} {H H1 : Hp} {env : Ev} {σ : L2.St} {M : Ends} {x : Xc} {c : Value} {dx : Option Addr} (re : RE K S H env σ) (rs : RS K S H) (q : (LN K S H W M).ex x env S1) (a : Aft K S H S1 H1) (r : RX K S1 H1 x c dx) : W c dx σ H1 := q c dx σ H1 a (re.step a.st rs) r
theorem js_expr (he : JE X W e te) (hs : swapsWith e none pos.line X.env = pure false := by rfl) : JS X W (.Expr e pos) (sDrop te) := by
  refine ⟨PS.imp (ps_expr he.pe hs) fun N σ H h => ?_, moDrop he.mo⟩
  obtain ⟨Z, env, S, re, rs, q⟩ := h
  exact LE.of he.mo re rs q (fun d S1 v H1 q1 a1 r1 => q1 σ H1 a1 (re.step a1.st rs)) fun x S1 c dx H1 q1 a1 r1 => exS re rs q1 a1 r1
theorem js_ret (he : JE X W e te) : JS X W (.Return (some e) pos) (sRet te) := by
  refine ⟨PS.imp (ps_ret he.pe) fun N σ H h => ?_, moRet he.mo⟩
  obtain ⟨Z, env, S, re, rs, q⟩ := h
  exact LE.of he.mo re rs q (fun d S1 v H1 q1 a1 r1 => q1 v H1 a1 r1) fun x S1 c dx H1 q1 a1 r1 => exS re rs q1 a1 r1
theorem js_if {c : Expr} (hc : JT X W c tc) (ha : JB X W a t) (hb : JB X W b u) : JS X W (.If c a b pos) (sIf tc t u) := by
  refine ⟨PS.imp (ps_if hc.pt ha.ps hb.ps) fun N σ H h => ?_, moIfS hc.mo ha.mo hb.mo⟩
  obtain ⟨Z, env, S, re, rs, q⟩ := h
  refine LT.of hc.mo re rs q (fun c S1 H1 q1 a1 => ?_) fun x S1 c dx H1 q1 a1 r1 => exS re rs q1 a1 r1
  cases c with
  | true => exact iteT (LS.of ha.mo (re.step a1.st rs) a1.rs q1 (LN.after a1 N))
  | false => exact iteF (LS.of hb.mo (re.step a1.st rs) a1.rs q1 (LN.after a1 N))
theorem js_asg {tg : Expr} {g : Tg} (he : JE X W e te) (hg : JG X tg g) (hs : swapsWithSole [tg] e pos.line X.env = pure false := by rfl) (hw : swappedStores [tg] e X.env = pure none := by rfl) (h1 : (assignEach [tg] X.env).map (·.2) = [assign tg X.env] := by rfl) :
    JS X W (.Assign [tg] e pos) (sAsg te g) := by
  refine ⟨PS.imp (ps_asg he.pe hg.pg hs hw h1) fun N σ H h => ?_, moAsg he.mo⟩
  obtain ⟨Z, env, S, re, rs, q⟩ := h
  refine LE.of he.mo re rs q (fun d S1 v H1 q1 a1 r1 => ?_) fun x S1 c dx H1 q1 a1 r1 => exS re rs q1 a1 r1
  split at q1 <;> first | exact q1.elim | skip
  rename_i e1 ee
  exact ⟨Z, env, S1, d, e1, re.step a1.st rs, a1.rs, r1, ee, fun σ' r' _ => q1 σ' H1 a1 r'⟩
theorem js_set (c : JC P w K mg base N sc vw k X W) (j : Nat) {x : Str} (hi : N[j]? = some x) (hx : sc.names.lookup x = some .local ∨ sc.names.lookup x = some .cell ∧ ∀ y, X.fn y = true) (he : JE X W e te) (hs : swapsWith e (some (.Name x pos')) pos.line X.env = pure false := by rfl) :
    JS X W (.Assign [.Name x pos'] e pos) (sAsg te (.nm j)) := by
  obtain ⟨l1, l2⟩ := c.loc hx
  refine ⟨PS.imp (ps_set (i := j) (by rw [c.nn]; exact c.nd) (by rw [c.nn]; exact hi) l1 he.pe hs l2) fun N σ H h => ?_, moAsg he.mo⟩
  obtain ⟨Z, env, S, re, rs, q⟩ := h
  refine LE.of he.mo re rs q (fun d S1 v H1 q1 a1 r1 => ?_) fun x S1 c dx H1 q1 a1 r1 => exS re rs q1 a1 r1
  unfold asgT at q1
  exact q1 _ H1 a1 ((re.step a1.st rs).set r1 j)
theorem js_par {x y : Str} {p q : Expr} {ta : TAd} {px py pt : Pos} {kt k2 : Nat} {pt2 : Pos} (c : JC P w K mg base N sc vw k X W) (l j : Nat) (hl : N[l]? = some x) (hj : N[j]? = some y) (hlj : l ≠ j) (hx : sc.names.lookup x = some .local) (hy : sc.names.lookup y = some .local) (ha : JA X W [p, q] ta)
    (hw : swappedStores [.Tuple [.Name x px, .Name y py] kt pt] (.Tuple [p, q] k2 pt2) X.env = pure (some [x, y])) (hs : swapsWithSole [.Tuple [.Name x px, .Name y py] kt pt] (.Tuple [p, q] k2 pt2) pos.line X.env = pure false := by rfl) :
    JS X W (.Assign [.Tuple [.Name x px, .Name y py] kt pt] (.Tuple [p, q] k2 pt2) pos) (sPar [l, j] ta) := by
  refine ⟨PS.imp (ps_par c.calm (by rw [c.nn]; exact c.nd) (by rw [c.nn]; exact hl) (by rw [c.nn]; exact hj) hlj (by rw [c.ss]; exact hx) (by rw [c.ss]; exact hy) ha.pa hw hs) fun N σ H h => ?_, moPar ha.mo⟩
  obtain ⟨Z, env, S, re, rs, q⟩ := h
  refine LA.of ha.mo re rs q (fun ds S1 vs H1 q1 a1 r1 => ?_) fun x S1 c dx H1 q1 a1 r1 => exS re rs q1 a1 r1
  split at q1 <;> first | exact q1.elim | skip
  rename_i e1 ee
  have ln := asgL_len ee
  match ds, r1, ln, ee with
  | [d1, d2], r1, _, ee =>
    obtain ⟨v1, v2, rfl, r1, r2⟩ := r1.two
    refine ⟨v1, v2, rfl, ?_⟩
    simp only [List.map_cons, List.map_nil, asgL, asgT, Option.some.injEq] at ee
    subst ee
    exact q1 _ H1 a1 (((re.step a1.st rs).set r1 l).set r2 j)
theorem js_aug (c : JC P w K mg base N sc vw k X W) (j : Nat) {x : Str} {op : Operator} {f : F2} (hi : N[j]? = some x) (hx : sc.names.lookup x = some .local ∨ sc.names.lookup x = some .cell ∧ ∀ y, X.fn y = true) (he : JE X W e te) (ho : OpD X (inplaceOp op) f) : JS X W (.AugAssign (.Name x pos') op e pos) (sAug j te f) := by
  obtain ⟨l1, l2⟩ := c.loc hx
  refine ⟨PS.imp (ps_aug (i := j) (by rw [c.nn]; exact c.nd) (by rw [c.nn]; exact hi) l1 he.pe ho.op l2) fun N σ H h => ?_, moAug he.mo ho.mo⟩
  obtain ⟨Z, env, S, re, rs, q⟩ := h
  unfold sAug at q
  split at q <;> first | exact q.elim | skip
  rename_i d ee
  obtain ⟨v, e1, rp⟩ := re.at_ j d ee
  refine ⟨v, e1, LE.of he.mo re rs q (fun d2 S1 y H1 q1 a1 r1 => ?_) fun x S1 c dx H1 q1 a1 r1 => exS re rs q1 a1 r1⟩
  exact ⟨Z, S1, d, d2, a1.rs, Rp.step a1.st rs _ _ rp, r1, ho.mo _ _ _ _ _ (fun d3 S2 q2 z H2 a2 r2 => q2 _ H2 (a1.trans a2) (((re.step a1.st rs).step a2.st a1.rs).set r2 j)) q1⟩
theorem js_sub (ho : JE X W o to) (hi : JE X W i ti) (he : JE X W e te) (hs : swapsWithSole [.Subscript o i pos'] e pos.line X.env = pure false := by rfl) (hw : swappedStores [.Subscript o i pos'] e X.env = pure none := by rfl)
    (h1 : (assignEach [.Subscript o i pos'] X.env).map (·.2) = [assign (.Subscript o i pos') X.env] := by rfl)
    (ha : ∀ v, assign (.Subscript o i pos') X.env v = (do
      let ov ← holding [v] (eval o X.env)
      let iv ← holding [v, ov] (eval i X.env)
      standAt pos'
      holding [v, ov, iv] (setItem ov iv v)
      release [v, ov, iv] []) := by intro _; rfl) : JS X W (.Assign [.Subscript o i pos'] e pos) (sSub te to ti) := by
  refine ⟨PS.imp (ps_asg he.pe (pg_sub ho.pe hi.pe set_list ha) hs hw h1) fun N σ H h => ?_, moSub' he.mo ho.mo hi.mo⟩
  obtain ⟨Z, env, S, re, rs, q⟩ := h
  refine LE.of he.mo re rs q (fun d S1 v H1 q1 a1 r1 => ?_) fun x S1 c dx H1 q1 a1 r1 => exS re rs q1 a1 r1
  refine LE.of ho.mo (re.step a1.st rs) a1.rs q1 (fun d2 S2 ov H2 q2 a2 r2 => ?_) fun x S2 c dx H2 q2 a2 r2 => exS re rs q2 (a1.trans a2) r2
  have a12 := a1.trans a2
  refine LE.of hi.mo (re.step a12.st rs) a2.rs q2 (fun d3 S3 iv H3 q3 a3 r3 => ?_) fun x S3 c dx H3 q3 a3 r3 => exS re rs q3 (a12.trans a3) r3
  have a13 := a12.trans a3
  unfold setD at q3
  split at q3 <;> first | exact q3.elim | skip
  split at q3 <;> first | exact q3.elim | skip
  rename_i ad kk ds e0
  split at q3 <;> first | exact q3.elim | skip
  rename_i jj e1
  cases r2
  cases r3
  obtain ⟨vs, hl, rl⟩ := a3.rs.at_ _ _ e0
  have rv := Rp.step a3.st a2.rs _ _ (Rp.step a2.st a1.rs _ _ r1)
  refine ⟨_, vs, _, jj, rfl, rfl, hl, by rw [← rl.length]; exact e1, ?_⟩
  have a4 := Rp.putR a3.rs e0 (rl.set jj rv)
  exact q3 σ _ (a13.trans a4) (re.step (a13.trans a4).st rs)
theorem js_frz (j : Nat) (h : JS X W st t) : JS X W st (sFrz j t) := by
  refine ⟨PS.imp h.ps fun N σ H q => ?_, moFrz h.mo⟩
  obtain ⟨Z, env, S, re, rs, q⟩ := q
  unfold sFrz at q
  split at q <;> first | exact q.elim | skip
  rename_i ad ee
  split at q <;> first | exact q.elim | skip
  rename_i ds e1
  obtain ⟨a1, r1⟩ := Rp.frz rs e1
  obtain ⟨v, e2, rp⟩ := re.at_ j _ ee
  cases rp
  have re' : RE ⟨X.K, Z⟩ (sdel S ad) H (env.set j (some (.lst ds))) σ := by
    have z := (re.step a1.st rs).set r1 j
    have e3 : σ.set j (some (V.ref ad)) = σ := by
      obtain ⟨hl, e4⟩ := List.getElem?_eq_some_iff.mp e2
      rw [← e4]
      exact List.set_getElem_self hl
    rw [e3] at z
    exact z
  exact LS.of h.mo re' a1.rs q (LN.after a1 N)
theorem js_while {c : Expr} {body : List Stmt} (hd : JD P w K mg base N sc vw k X W) (hc : JT X W c tc) (hb : JB X W body t) : JS X W (.While c body [] pos) (sWhile tc t) := by
  refine ⟨PS.imp (ps_while hd.po hc.pt hb.ps) fun M σ H h => ?_, moWhile hc.mo hb.mo⟩
  obtain ⟨Z, env, S, re, rs, q⟩ := h
  obtain ⟨Wi, ⟨m0, w0⟩, turn⟩ := q
  refine ⟨fun m σ' H' => ∃ env' S', Aft ⟨X.K, Z⟩ S H S' H' ∧ RE ⟨X.K, Z⟩ S' H' env' σ' ∧ Wi m env' S', ⟨m0, env, S, .refl rs, re, w0⟩, fun m σ1 H1 hw => ?_⟩
  obtain ⟨env1, S1, a1, re1, w1⟩ := hw
  refine LT.of hc.mo re1 a1.rs (turn m env1 S1 w1) (fun b S2 H2 q2 a2 => ?_) fun x S2 c dx H2 q2 a2 r2 => q2 c dx σ1 H2 (a1.trans a2) (re1.step a2.st a1.rs) r2
  have a12 := a1.trans a2
  cases b with
  | false => exact iteF (q2 σ1 H2 a12 (re1.step a2.st a1.rs))
  | true =>
    refine iteT ⟨fun σ' H' => ∃ m', m' < m ∧ ∃ env' S', Aft ⟨X.K, Z⟩ S H S' H' ∧ RE ⟨X.K, Z⟩ S' H' env' σ' ∧ Wi m' env' S', fun σ' H' hh => hh, ?_⟩
    refine LS.of hb.mo (re1.step a2.st a1.rs) a2.rs q2 ⟨fun e s hh σ' H' a3 r3 => ?_, fun d s hh v H' a3 r3 => hh v H' (a12.trans a3) r3, fun e s hh σ' H' a3 r3 => hh σ' H' (a12.trans a3) r3, fun e s hh σ' H' a3 r3 => ?_, fun x e s hh c dx σ' H' a3 r3 rx => hh c dx σ' H' (a12.trans a3) r3 rx⟩
    · obtain ⟨m', hm, hw⟩ := hh
      exact ⟨m', hm, e, s, a12.trans a3, r3, hw⟩
    · obtain ⟨m', hm, hw⟩ := hh
      exact ⟨m', hm, e, s, a12.trans a3, r3, hw⟩
end

/-! ### what is walked -/
def WkD (K : Kz) (S : Sto) (H : Hp) (J : It) (ds : List D) : Prop := ∃ (G : Hp → Prop) (Y : Nat → Hp → V → Hp → Prop), Walk J ds.length G Y ∧ (∀ S' H', Step S H S' H' → G H') ∧
  ∀ (K' : Kz) i S' H' x H'', K'.K = K.K → Step S H S' H' → RS K' S' H' → (∀ d v, Rp K S H d v → Rp K' S' H' d v) → i < ds.length → Y i H' x H'' → Aft K' S' H' S' H'' ∧ ∃ d, ds[i]? = some d ∧ Rp K' S' H'' d x
def LI (K : PySem.W.Frag) (W : WX) (t : TAd) : TI := fun σ H R => ∃ Z env S, RE ⟨K, Z⟩ S H env σ ∧ RS ⟨K, Z⟩ S H ∧ t env S (fun ds S' => ∀ J H', Aft ⟨K, Z⟩ S H S' H' → WkD ⟨K, Z⟩ S' H' J ds → R J H') (PX ⟨K, Z⟩ S H σ W)
structure JI (X : Cx) (W : WX) (tg iter : Expr) (t : TAd) : Prop where
  pi : PI X tg iter (LI X.K W t)
  mo : MoE t
theorem LI.of {K : Kz} {W : WX} {S : Sto} {H : Hp} {env : Ev} {σ : L2.St} {t : TAd} (mo : MoE t) (re : RE K S H env σ) (rs : RS K S H) {C : List D → Sto → Prop} {E : EK} {R : It → Hp → Prop} (h : t env S C E)
    (hc : ∀ ds S1 J H1, C ds S1 → Aft K S H S1 H1 → WkD K S1 H1 J ds → R J H1) (he : ∀ x S1 c dx H1, E x S1 → Aft K S H S1 H1 → RX K S1 H1 x c dx → W c dx σ H1) : LI K.K W t σ H R :=
  ⟨K.Z, env, S, re, rs, mo _ _ _ _ _ _ (fun ds S1 q J H1 a wk => hc ds S1 J H1 q a wk) (fun x S1 q c dx H1 a r => he x S1 c dx H1 q a r) h⟩
section
variable {P : Program} {w : World} {K : PySem.W.Frag} {mg : Str → Option Value} {base : Heap} {N : List Str} {sc : Scope} {vw : Vw} {k : Nat} {X : Cx} {W : WX}
theorem js_for {tg iter : Expr} {body : List Stmt} {tb : TSd} {ti : TAd} {g : Tg} {pos : Pos} (hd : JD P w K mg base N sc vw k X W) (hi : JI X W tg iter ti) (hg : JG X tg g) (hb : JB X W body tb) (hs : ∀ x, foldedSetIterable iter X.env x = pure x := by intro _; rfl) : JS X W (.For tg iter body [] pos) (sFor ti g tb) := by
  refine ⟨PS.imp (ps_for hd.po hd.calm hi.pi hg.pg hb.ps hs) fun M σ H h => ?_, moFor hi.mo hb.mo⟩
  obtain ⟨Z, env, S, re, rs, q⟩ := h
  refine LI.of hi.mo re rs q (fun ds S1 J H1 q1 a1 wk => ?_) fun x S1 c dx H1 q1 a1 r1 => exS re rs q1 a1 r1
  obtain ⟨G, Y, wk, hG, hY⟩ := wk
  refine for_it wk (fun i σ' H' => ∃ env' S', Aft ⟨X.K, Z⟩ S1 H1 S' H' ∧ RE ⟨X.K, Z⟩ S' H' env' σ' ∧ forD g tb (ds.drop i) env' S' (LN ⟨X.K, Z⟩ S H W M)) ⟨env, S1, .refl a1.rs, re.step a1.st rs, q1⟩ (fun i σ' H' _ ⟨env', S', a, _, _⟩ => hG S' H' a.st) (fun i x σ' H' H'' hi hp y => ?_) fun σ' H' hp => ?_
  · obtain ⟨env', S', a, re', q'⟩ := hp
    obtain ⟨a2, d, ed, rd⟩ := hY ⟨X.K, Z⟩ i S' H' x H'' rfl a.st a.rs (fun d v r => Rp.step a.st a1.rs d v r) hi y
    have e0 : ds.drop i = d :: ds.drop (i + 1) := by
      rw [List.drop_eq_getElem_cons hi]
      congr 1
      rw [List.getElem?_eq_getElem hi] at ed
      exact Option.some.inj ed
    rw [e0] at q'
    unfold forD at q'
    split at q' <;> first | exact q'.elim | skip
    rename_i e1 ee
    have a3 := a.trans a2
    have a13 := a1.trans a3
    refine ⟨Z, env', S', d, e1, re'.step a2.st a.rs, a2.rs, rd, ee, fun σ2 r2 _ => ?_⟩
    refine LS.of hb.mo r2 a2.rs q' ⟨fun e s hh σ3 H3 a4 r3 => ⟨e, s, a3.trans a4, r3, hh⟩, fun d s hh v H3 a4 r3 => hh v H3 (a13.trans a4) r3, fun e s hh σ3 H3 a4 r3 => hh σ3 H3 (a13.trans a4) r3, fun e s hh σ3 H3 a4 r3 => ⟨e, s, a3.trans a4, r3, hh⟩, fun x e s hh c dx σ3 H3 a4 r3 rx => hh c dx σ3 H3 (a13.trans a4) r3 rx⟩
  · obtain ⟨env', S', a, re', q'⟩ := hp
    rw [List.drop_length] at q'
    unfold forD at q'
    exact q' σ' H' (a1.trans a) re'

/-! #### iterators -/
theorem it_list {tg : Expr} {pins : List (Addr × Obj)} {σ : L2.St} {H : Hp} {s : Shared} {R : It → Hp → Prop} {a : Addr} {xs : List V} (I : Inv X pins σ H s) (hq : SqL X.K H a xs) (q : R (Itl X.K a) H) : wpAny (model X.prog X.w) X.A (pyIter (.ref a)) (PIE X pins σ tg R) X.xe s := by
  obtain ⟨its, _, pln, _⟩ := I.list hq
  refine wpAny_pyIter_list pln.isList ⟨s.heap.objs.size, [s.heap.objs.size], _, _, H, rfl, I.kept (t' := s.toks) fun _ _ e => Heap.get?_push_of_some _ e, turn_list a _, ⟨_, Heap.get?_push_size _ rfl, rfl, rfl⟩, fun b hb => ?_, q⟩
  obtain rfl : b = s.heap.objs.size := by simpa using hb
  exact I.fpOk (Nat.le_refl _) (I.hok.fresh (Nat.le_refl _))
theorem it_tup {tg : Expr} {pins : List (Addr × Obj)} {σ : L2.St} {H : Hp} {s : Shared} {R : It → Hp → Prop} {a : Addr} {xs : List V} (I : Inv X pins σ H s) (hq : SqT X.K H a xs) (q : R (Itt X.K a) H) : wpAny (model X.prog X.w) X.A (pyIter (.ref a)) (PIE X pins σ tg R) X.xe s := by
  obtain ⟨its, _, pln, _⟩ := I.tuple hq
  refine wpAny_pyIter_tuple (show s.heap.IsTuple a its.toArray from pln) ⟨s.heap.objs.size, [s.heap.objs.size], _, _, H, rfl, I.kept (t' := s.toks) fun _ _ e => Heap.get?_push_of_some _ e, turn_tuple a _, ⟨_, Heap.get?_push_size _ rfl, rfl, rfl⟩, fun b hb => ?_, q⟩
  obtain rfl : b = s.heap.objs.size := by simpa using hb
  exact I.fpOk (Nat.le_refl _) (I.hok.fresh (Nat.le_refl _))
/-- a list or a tuple that stands still -/
def iVal (t : TEd) : TAd := fun env S Q E => t env S (fun d S1 => match d with
  | .tup ds => Q ds S1
  | .lst ds => Q ds S1
  | _ => False) E
theorem moIVal {t : TEd} (ht : MoE t) : MoE (iVal t) := fun env S Q Q' E E' h he q => ht _ _ _ _ _ _ (fun d S1 q1 => by
  cases d <;> first | exact h _ _ q1 | exact q1) he q
theorem wk_at {K : Kz} {S : Sto} {H : Hp} {J : It} {G : Hp → Prop} {ds : List D} {vs : List V} (rl : RpL K S H ds vs) (wk : Walk J vs.length G (YAt vs)) (hG : ∀ S' H', Step S H S' H' → G H') : WkD K S H J ds := by
  refine ⟨G, YAt vs, by rw [rl.length]; exact wk, hG, fun K' i S' H' x H'' _ _ rs' tr hi y => ?_⟩
  obtain ⟨rfl, e⟩ := y
  obtain ⟨d, e1, r1⟩ := rl.get' e
  exact ⟨.refl rs', d, e1, tr d x r1⟩
theorem wk_list {K : Kz} {S : Sto} {H : Hp} {a : Addr} {ds : List D} (r : Rp K S H (.lst ds) (.ref a)) : WkD K S H (Itl K.K a) ds := by
  cases r with
  | lst h1 h2 _ h4 => exact wk_at h4 walk_list fun S' H' st => .inl (st.rdL h1 h2).1
  | lstK h1 h2 => exact wk_at h2 walk_list fun S' H' st => SqL.ofK h1
theorem wk_tup {K : Kz} {S : Sto} {H : Hp} {a : Addr} {ds : List D} (rs : RS K S H) (r : Rp K S H (.tup ds) (.ref a)) : WkD K S H (Itt K.K a) ds := by
  cases r with
  | tup h1 h2 => exact wk_at h2 walk_tup fun S' H' st => st.sqT rs h1
theorem ji_val {tg e : Expr} {te : TEd} (he : JE X W e te) : JI X W tg e (iVal te) := by
  refine ⟨⟨fun pins s σ H R I h => ?_⟩, moIVal he.mo⟩
  obtain ⟨Z, env, S, re, rs, q⟩ := h
  refine thn (he.pe.run pins s σ H _ I (LE.of he.mo re rs q (R := fun v H1 => ∃ d S1, Aft ⟨X.K, Z⟩ S H S1 H1 ∧ Rp ⟨X.K, Z⟩ S1 H1 d v ∧ match d with
    | .tup ds => ∀ J H', Aft ⟨X.K, Z⟩ S H S1 H' → WkD ⟨X.K, Z⟩ S1 H' J ds → R J H'
    | .lst ds => ∀ J H', Aft ⟨X.K, Z⟩ S H S1 H' → WkD ⟨X.K, Z⟩ S1 H' J ds → R J H'
    | _ => False) (fun d S1 v H1 q1 a1 r1 => ⟨d, S1, a1, r1, q1⟩) fun x S1 c dx H1 q1 a1 r1 => q1 c dx H1 a1 r1)) fun u s1 ⟨v, H1, I1, ru, d, S1, a1, r1, q1⟩ => ?_
  cases d <;> first | exact q1.elim | skip
  · obtain ⟨a, vs, rfl, hq, _⟩ := r1.sqT
    cases ru
    exact it_tup I1 hq (q1 _ H1 a1 (wk_tup a1.rs r1))
  · obtain ⟨a, vs, rfl, hq, _⟩ := r1.sqL
    cases ru
    exact it_list I1 hq (q1 _ H1 a1 (wk_list r1))
/-! ranges -/
def rngD (lo : Int) (n : Nat) : List D := (List.range n).map fun i : Nat => D.int (lo + i)
def iR1 (t : TAd) : TAd := fun env S Q E => t env S (fun ds S1 => match ds with
  | [.int j] => -(2 ^ 62) ≤ j ∧ j < 2 ^ 62 ∧ Q (rngD 0 j.toNat) S1
  | _ => False) E
def iR2 (t : TAd) : TAd := fun env S Q E => t env S (fun ds S1 => match ds with
  | [.int i, .int j] => (-(2 ^ 62) ≤ i ∧ i < 2 ^ 62 ∧ -(2 ^ 62) ≤ j ∧ j < 2 ^ 62) ∧ Q (rngD i (j - i).toNat) S1
  | _ => False) E
theorem moR1 {t : TAd} (ht : MoE t) : MoE (iR1 t) := fun env S Q Q' E E' h he q => ht _ _ _ _ _ _ (fun ds S1 q1 => by
  split at q1
  · exact ⟨q1.1, q1.2.1, h _ _ q1.2.2⟩
  · exact q1.elim) he q
theorem moR2 {t : TAd} (ht : MoE t) : MoE (iR2 t) := fun env S Q Q' E E' h he q => ht _ _ _ _ _ _ (fun ds S1 q1 => by
  split at q1
  · exact ⟨q1.1, h _ _ q1.2⟩
  · exact q1.elim) he q
theorem wk_rng {K : Kz} {S : Sto} {H : Hp} {lo : Int} {n : Nat} : WkD K S H (Itr lo n) (rngD lo n) := by
  have hl : (rngD lo n).length = n := by simp [rngD]
  refine ⟨fun _ => True, YFn fun i => .int (lo + i), by rw [hl]; exact walk_range, fun _ _ _ => trivial, fun K' i S' H' x H'' _ _ rs' tr hi y => ?_⟩
  obtain ⟨rfl, rfl⟩ := y
  rw [hl] at hi
  exact ⟨.refl rs', .int (lo + i), by simp [rngD, hi], .int _⟩
theorem PI.imp {X : Cx} {tg e : Expr} {t u : TI} (h : PI X tg e t) (k : ∀ σ H Q, u σ H Q → t σ H Q) : PI X tg e u := ⟨fun pins s σ H Q I q => h.run pins s σ H Q I (k σ H Q q)⟩
theorem ji_r1 {tg e : Expr} {ta : TAd} {p pos : Pos} (c : JC P w K mg base N sc vw k X W) (hx : ("range" : Str) ∈ vw.gs) (hm : mg "range" = none) (ha : JA X W [e] ta) (hs : starEach [e] X.env = [(false, eval e X.env)] := by rfl) : JI X W tg (.Call (.Name "range" p) [e] [] pos) (iR1 ta) := by
  refine ⟨PI.imp (pi_range1 (c.gl hx) (by rw [c.gg]; exact hm) ha.pa hs) fun σ H R h => ?_, moR1 ha.mo⟩
  obtain ⟨Z, env, S, re, rs, q⟩ := h
  refine LA.of ha.mo re rs q (fun ds S1 vs H1 q1 a1 r1 => ?_) fun x S1 c dx H1 q1 a1 r1 => q1 c dx H1 a1 r1
  split at q1 <;> first | exact q1.elim | skip
  obtain ⟨v, rfl, r2⟩ := r1.one
  cases r2
  exact ⟨_, rfl, q1.1, q1.2.1, q1.2.2 _ H1 a1 wk_rng⟩
end

/-! ### list comprehensions -/
def wipeD (env : Ev) : List Nat → Ev
  | [] => env
  | v :: vs => (wipeD env vs).set v none
theorem RE.wipe {K : Kz} {S : Sto} {H : Hp} {env : Ev} {σ : L2.St} (re : RE K S H env σ) : ∀ vs : List Nat, RE K S H (wipeD env vs) (wipe σ vs)
  | [] => re
  | v :: vs => (RE.wipe re vs).unset v
abbrev EF : EK := fun _ _ => False
def lcGo (g : Tg) (tt : TTd) (te : TEd) (env : Ev) : List D → Sto → (List D → Sto → Prop) → Prop
  | [], S, Q => Q [] S
  | d :: ds, S, Q => match asgT S g d env with
    | some e1 => tt e1 S (fun b S1 => if b = true then te e1 S1 (fun y S2 => lcGo g tt te env ds S2 fun ys S3 => Q (y :: ys) S3) EF else lcGo g tt te env ds S1 Q) EF
    | none => False
def dLc (ti : TAd) (g : Tg) (tt : TTd) (te : TEd) (vs : List Nat) : TEd := fun env S Q E => ti env S (fun ds S1 => ds.length < sizeLine ∧ lcGo g tt te (wipeD env vs) ds S1 fun ys S2 => Q (.lst ys) S2) E
/-- the list that is made is to be grown -/
def dLcR (ti : TAd) (g : Tg) (tt : TTd) (te : TEd) (vs : List Nat) : TEd := fun env S Q E => ti env S (fun ds S1 => ds.length < sizeLine ∧ lcGo g tt te (wipeD env vs) ds S1 fun ys S2 => ∀ a, S2 a = none → Q (.ref a) (sup S2 a ys)) E
theorem moLcGo {g : Tg} {tt : TTd} {te : TEd} (ht : MoE tt) (he : MoE te) (env : Ev) : ∀ (ds : List D) (S : Sto) (Q Q' : List D → Sto → Prop), (∀ ys S, Q ys S → Q' ys S) → lcGo g tt te env ds S Q → lcGo g tt te env ds S Q'
  | [], S, Q, Q', h, q => h _ _ q
  | d :: ds, S, Q, Q', h, q => by
    unfold lcGo at q ⊢
    split at q <;> first | exact q.elim | skip
    refine ht _ _ _ _ _ _ (fun b S1 q1 => ?_) (fun _ _ z => z) q
    cases b with
    | false => exact iteF (moLcGo ht he env ds S1 Q Q' h q1)
    | true => exact iteT (he _ _ _ _ _ _ (fun y S2 q2 => moLcGo ht he env ds S2 _ _ (fun ys S3 q3 => h _ _ q3) q2) (fun _ _ z => z) q1)
theorem moLc {ti : TAd} {g : Tg} {tt : TTd} {te : TEd} {vs : List Nat} (hi : MoE ti) (ht : MoE tt) (he : MoE te) : MoE (dLc ti g tt te vs) := fun env S Q Q' E E' h hx q => hi _ _ _ _ _ _ (fun ds S1 q1 => ⟨q1.1, moLcGo ht he _ _ _ _ _ (fun ys S2 q2 => h _ _ q2) q1.2⟩) hx q
def tYesD : TTd := fun _ S Q _ => Q true S
theorem moYesD : MoE tYesD := fun env S Q Q' E E' h he q => h _ _ q
structure JTs (X : Cx) (W : WX) (ifs : List Expr) (t : TTd) : Prop where
  pt : PTs X ifs (LT X.K W t)
  mo : MoE t
abbrev W0 : WX := fun _ _ _ _ => False
theorem jts_nil {X : Cx} {W : WX} : JTs X W [] tYesD := ⟨⟨fun pins s σ H Q I h => by
  obtain ⟨Z, env, S, re, rs, q⟩ := h
  exact pts_nil.run pins s σ H Q I (q H (.refl rs))⟩, moYesD⟩
theorem jts_one {X : Cx} {W : WX} {c : Expr} {t : TTd} (h : JT X W c t) : JTs X W [c] t := ⟨pts_one h.pt, h.mo⟩
/-- the turns of a comprehension, the new list at p out of sight -/
theorem lc_run {K : Kz} {J : It} {S : Sto} {H : Hp} {g : Tg} {tt : TTd} {te : TEd} {vs : List Nat} {env : Ev} {σ : L2.St} {ds : List D} {p : Addr} {Qd : Hp → Prop} {QQ : List D → Sto → Prop} (ht : MoE tt) (he : MoE te) (hgv : ∀ i ∈ tgS g, i ∈ vs) (re : RE K S H env σ) (rs : RS K S H) (wk : WkD K S H J ds) (hp : H p = none)
    (hl : ds.length < sizeLine) (h : lcGo g tt te (wipeD env vs) ds S QQ)
    (hd : ∀ S' H' acc accD, QQ accD S' → Step S H S' H' → RS (K.more p) S' H' → H' p = some (.lst acc) → RpL (K.more p) S' H' accD acc → Qd H') :
    ∃ Wi : Nat → Nat → Hp → Prop, (∃ m, Wi 0 m (upd H p (.lst []))) ∧ ∀ i m H, Wi i m H →
      (J.stop i H ∧ Qd H) ∨ (J.go i H ∧ ∃ Nx : Hp → Prop, (∀ H', Nx H' → ∃ m', m' < m ∧ Wi (i + 1) m' H') ∧ ∀ x H', J.yld i H x H' → LG K.K g x (wipe σ vs) H' fun σ2 H2 => wipe σ2 vs = wipe σ vs ∧ LT K.K W0 tt σ2 H2 fun b H3 =>
        if b = true then LE K.K W0 te σ2 H3 fun y H4 => ∃ acc, H4 p = some (.lst acc) ∧ acc.length < sizeLine ∧ Nx (upd H4 p (.lst (acc ++ [y]))) else Nx H3) := by
  obtain ⟨G, Y, wk, hG, hY⟩ := wk
  refine lc_it wk (fun i H' => ∃ S' acc accD, H' p = some (.lst acc) ∧ RpL (K.more p) S' H' accD acc ∧ accD.length ≤ i ∧ Step S H S' H' ∧ RS (K.more p) S' H' ∧ (∀ d v, Rp K S H d v → Rp (K.more p) S' H' d v) ∧ lcGo g tt te (wipeD env vs) (ds.drop i) S' fun ys S2 => QQ (accD ++ ys) S2)
    ⟨S, [], [], upd_same, .nil, Nat.le_refl _, fun b o e n => ⟨n, by rw [upd_ne (ne_of_none e hp)]; exact e⟩, rs.hide hp, fun d v r => Rp.hide hp d v r, h⟩ (fun i H' _ ⟨S', _, _, _, _, _, st, _⟩ => hG S' H' st) (fun i x H' H'' hi hPv y => ?_) fun H' hPv => ?_
  · obtain ⟨S', acc, accD, e1, rl, la, st, rs', tr, q⟩ := hPv
    obtain ⟨a2, d, ed, rd⟩ := hY (K.more p) i S' H' x H'' rfl st rs' tr hi y
    have e0 : ds.drop i = d :: ds.drop (i + 1) := by
      rw [List.drop_eq_getElem_cons hi]
      congr 1
      rw [List.getElem?_eq_getElem hi] at ed
      exact Option.some.inj ed
    rw [e0] at q
    unfold lcGo at q
    split at q <;> first | exact q.elim | skip
    rename_i env1 ee
    have re' : RE (K.more p) S' H' env σ := ⟨re.len, fun j d e => by
      obtain ⟨v, e2, r⟩ := re.at_ j d e
      exact ⟨v, e2, tr d v r⟩⟩
    have np : S' p = none := (rs'.hid p (.inr rfl)).1
    refine ⟨fun b => K.Z b ∨ b = p, wipeD env vs, S', d, env1, (re'.wipe vs).step a2.st rs', a2.rs, rd, ee, fun σ2 r2 w2 => ⟨?_, ?_⟩⟩
    · rw [w2 vs hgv]
      have z : ∀ (σ : L2.St) (vs : List Nat), wipe (wipe σ vs) vs = wipe σ vs := by
        intro σ vs
        have z2 : ∀ us : List Nat, (∀ u ∈ us, u ∈ vs) → wipe (wipe σ us) vs = wipe σ vs := by
          intro us
          induction us with
          | nil => intro _; rfl
          | cons u us ih =>
            intro hu
            show wipe ((wipe σ us).set u none) vs = _
            rw [wipe_in (hu u (by simp)), ih fun v hv => hu v (by simp [hv])]
        exact z2 vs fun _ h => h
      exact z σ vs
    refine LT.of (K := K.more p) ht r2 a2.rs q (fun b S3 H3 q3 a3 => ?_) fun x S3 c dx H3 q3 _ _ => q3
    have a23 := a2.trans a3
    have e3 : H3 p = some (.lst acc) := (a23.st p _ e1 np).2
    have st3 : Step S H S3 H3 := st.trans a23.st
    cases b with
    | false =>
      refine iteF ⟨S3, acc, accD, e3, RpL.step a23.st rs' _ _ rl, Nat.le_succ_of_le la, st3, a3.rs, fun d v r => Rp.step a23.st rs' _ _ (tr d v r), q3⟩
    | true =>
      refine iteT (LE.of (K := K.more p) he (r2.step a3.st a2.rs) a3.rs q3 (fun yD S4 yv H4 q4 a4 r4 => ?_) fun x S4 c dx H4 q4 _ _ => q4)
      have a24 := a23.trans a4
      have e4 : H4 p = some (.lst acc) := (a24.st p _ e1 np).2
      have lacc : acc.length ≤ i := by rw [← rl.length]; exact la
      refine ⟨acc, e4, by omega, S4, acc ++ [yv], accD ++ [yD], upd_same, ?_, ?_, ?_, a4.rs.grow e4, fun d v r => Rp.grow e4 _ _ (Rp.step a24.st rs' _ _ (tr d v r)), ?_⟩
      · exact RpL.grow e4 _ _ ((RpL.step a24.st rs' _ _ rl).append (.cons r4 .nil))
      · rw [List.length_append, List.length_singleton]; omega
      · intro b o e n
        obtain ⟨n1, h1⟩ := (st.trans a24.st) b o e n
        exact ⟨n1, by rw [upd_ne (ne_of_none e hp)]; exact h1⟩
      · simpa only [List.append_assoc, List.singleton_append] using q4
  · obtain ⟨S', acc, accD, e1, rl, la, st, rs', tr, q⟩ := hPv
    rw [List.drop_length] at q
    unfold lcGo at q
    rw [List.append_nil] at q
    exact hd S' H' acc accD q st rs' e1 rl
section
variable {P : Program} {w : World} {K : PySem.W.Frag} {mg : Str → Option Value} {base : Heap} {N : List Str} {sc : Scope} {vw : Vw} {k : Nat} {X : Cx} {W : WX}
variable {elt tg iter : Expr} {ifs : List Expr} {scope : Scope} {pos : Pos} {ti : TAd} {g : Tg} {tt : TTd} {te : TEd} {own : List (Str × Nat)} {vw2 : Vw}
/-- the block's own context -/
theorem JC.blk (c : JC P w K mg base N sc vw k X W) (s2 : Sc N (relS scope sc) vw2) (hk : scope.kind = .function) (s : Shared) (H : Hp) (C : Addr) (cl : List (Str × Addr)) (fp : List Addr) : JC P w K mg base N (relS scope sc) vw2 k (X.blk s H scope (compEnvC scope cl C X.env) fp) W0 where
  prog := c.prog
  ww := c.ww
  kk := c.kk
  gg := c.gg
  bb := c.bb
  nn := c.nn
  ss := by rw [← c.ss]; rfl
  sC := s2
  nd := c.nd
  calm := c.calm
  room := c.room
  tk := takes0
  kd := hk
theorem lcOf (hi : JI X W tg iter ti) (ht : MoE tt) (he : MoE te) (hgv : ∀ i ∈ tgS g, i ∈ own.map (·.2)) {σ : L2.St} {H : Hp} {Q : VK} (h : LE X.K W (dLc ti g tt te (own.map (·.2))) σ H Q) : tLc (LI X.K W ti) (LG X.K g) (LT X.K W0 tt) (LE X.K W0 te) (own.map (·.2)) σ H Q := by
  obtain ⟨Z, env, S, re, rs, q⟩ := h
  refine LI.of hi.mo re rs q (fun ds S1 J H1 q1 a1 wk => ?_) fun x S1 c dx H1 q1 a1 r1 => q1 c dx H1 a1 r1
  intro p hp
  refine lc_run (K := ⟨X.K, Z⟩) ht he hgv (re.step a1.st rs) a1.rs wk hp q1.1 q1.2 fun S' H' acc accD qq st rs' e rl => ?_
  exact qq _ H' (a1.trans ⟨st, rs'.show_⟩) (Rp.made rs' e (a1.rs.nz hp) rl)
theorem je_lc (c : JC P w K mg base N sc vw k X W) (ok : blkC N sc scope own = true) (s2 : Sc N (relS scope sc) vw2) (hgv : ∀ i ∈ tgS g, i ∈ own.map (·.2)) (hi : JI X W tg iter ti)
    (hg : ∀ X2, JC P w K mg base N (relS scope sc) vw2 k X2 W0 → JG X2 tg g) (ht : ∀ X2, JC P w K mg base N (relS scope sc) vw2 k X2 W0 → JTs X2 W0 ifs tt) (he : ∀ X2, JC P w K mg base N (relS scope sc) vw2 k X2 W0 → JE X2 W0 elt te) (mt : MoE tt) (me : MoE te)
    (hs : ∀ x, foldedSetIterable iter X.env x = pure x := by intro _; rfl) : JE X W (.ListComp elt [⟨tg, iter, ifs, 0⟩] scope pos) (dLc ti g tt te (own.map (·.2))) := by
  have bo : BlkOk X.N X.env.scope scope own := by rw [c.nn, c.ss]; exact blkOk_by ok
  have jc := fun s H C cl fp => c.blk s2 bo.kind s H C cl fp
  refine ⟨PE.imp (pe_lc (own := own) c.calm (by rw [c.nn]; exact c.nd) hi.pi bo (fun s H C cl fp => (hg _ (jc s H C cl fp)).pg) (fun s H C cl fp => (ht _ (jc s H C cl fp)).pt) (fun s H C cl fp => (he _ (jc s H C cl fp)).pe) hs) fun σ H Q h => lcOf hi mt me hgv h, moLc hi.mo mt me⟩
end

/-! ### methods of lists that are grown -/
abbrev GM := Addr → List D → Sto → DK → Prop
def dLm (f : GM) (to : TEd) (ta : TAd) : TEd := fun env S Q E => to env S (fun o S1 => match o with
  | .ref a => (S1 a).isSome = true ∧ ta env S1 (fun ds S2 => f a ds S2 Q) E
  | _ => False) E
structure MtD (X : Cx) (id : String) (f : GM) : Prop where
  mo : ∀ a ds S (Q Q' : DK), (∀ d S, Q d S → Q' d S) → f a ds S Q → f a ds S Q'
  run : MtR X id fun x vs H Q => ∃ Z S a ds, x = .ref a ∧ RS ⟨X.K, Z⟩ S H ∧ RpL ⟨X.K, Z⟩ S H ds vs ∧ f a ds S (PQ ⟨X.K, Z⟩ S H Q)
theorem moLm {f : GM} {to : TEd} {ta : TAd} (hf : ∀ a ds S (Q Q' : DK), (∀ d S, Q d S → Q' d S) → f a ds S Q → f a ds S Q') (h1 : MoE to) (h2 : MoE ta) : MoE (dLm f to ta) := fun env S Q Q' E E' h he q => h1 _ _ _ _ _ _ (fun o S1 q1 => by
  cases o <;> first | exact q1 | exact ⟨q1.1, h2 _ _ _ _ _ _ (fun ds S2 q2 => hf _ _ _ _ _ h q2) he q1.2⟩) he q
section
variable {X : Cx} {W : WX} {o e : Expr} {es : List Expr} {to : TEd} {ta : TAd} {name : Str} {apos cpos : Pos} {id : String} {f : GM}
theorem je_lm (slot : Slot "list" name id) (hty : typeOf (.builtin id) = pure (.type "method_descriptor")) (hm : MtD X id f) (ho : JE X W o to) (ha : JA X W (e :: es) ta)
    (hbase : attributeBase o name X.env (eval o X.env) = eval o X.env := by rfl)
    (hfew : ((backTo cpos (starEach (e :: es) X.env)).all (fun x => !x.1) && (backToKw cpos (keywordEach [] X.env)).all (fun x => x.1.isSome) && decide ((e :: es).length + ([] : List Keyword).length + (if ([] : List Keyword).isEmpty then 0 else 1) < 30)) = true := by rfl)
    (hline : (apos.endLine == cpos.line) = true := by rfl) (hs : starEach (e :: es) X.env = (false, eval e X.env) :: starEach es X.env := by rfl) (hplain : (backTo cpos (starEach es X.env)).any (·.1) = false := by rfl) :
    JE X W (.Call (.Attribute o name apos) (e :: es) [] cpos) (dLm f to ta) := by
  refine ⟨PE.imp (pe_bm PySem.F.plainAttrs_list slot hty hm.run ho.pe ha.pa hbase hfew hline hs hplain) fun σ H Q h => ?_, moLm hm.mo ho.mo ha.mo⟩
  obtain ⟨Z, env, S, re, rs, q⟩ := h
  refine LE.of ho.mo re rs q (fun d S1 v H1 q1 a1 r1 => ?_) fun x S1 c dx H1 q1 a1 r1 => q1 c dx H1 a1 r1
  cases d <;> first | exact q1.elim | skip
  rename_i a
  cases r1
  obtain ⟨ds, e1⟩ := Option.isSome_iff_exists.mp q1.1
  obtain ⟨vs, hl, _⟩ := a1.rs.at_ a ds e1
  refine ⟨.inl ⟨rfl, vs, SqL.of hl⟩, LA.of ha.mo (re.step a1.st rs) a1.rs q1.2 (fun ds2 S2 vs2 H2 q2 a2 r2 => ?_) fun x S2 c dx H2 q2 a2 r2 => q2 c dx H2 (a1.trans a2) r2⟩
  exact ⟨Z, S2, a, ds2, rfl, a2.rs, r2, hm.mo _ _ _ _ _ (fun d S3 q3 => PQ.after (a1.trans a2) q3) q2⟩
def gApp : GM := fun a ds S Q => match ds with
  | [d] => match S a with
    | some xs => xs.length < sizeLine ∧ Q .non (sup S a (xs ++ [d]))
    | none => False
  | _ => False
theorem md_append : MtD X "list.append" gApp := by
  refine ⟨fun a ds S Q Q' h q => ?_, fun pins s σ H x xs v us Q I rx rv h => ?_⟩
  · unfold gApp at q ⊢
    split at q <;> first | exact q.elim | skip
    split at q <;> first | exact q.elim | exact ⟨q.1, h _ _ q.2⟩
  · obtain ⟨Z, S, a, ds, rfl, rs, rl, q⟩ := h
    unfold gApp at q
    split at q <;> first | exact q.elim | skip
    split at q <;> first | exact q.elim | skip
    rename_i d _ ys e
    obtain ⟨y, rfl, r1⟩ := rl.one
    obtain ⟨vs, hl, rv2⟩ := rs.at_ a ys e
    refine mt_append pins s σ H _ _ v us Q I rx rv ⟨a, vs, y, rfl, rfl, hl, by rw [← rv2.length]; exact q.1, ?_⟩
    exact q.2 _ _ (Rp.putR rs e (rv2.append (.cons r1 .nil))) .non
theorem je_append (ho : JE X W o to) (ha : JA X W [e] ta) (hbase : attributeBase o "append" X.env (eval o X.env) = eval o X.env := by rfl) (hline : (apos.endLine == cpos.line) = true := by rfl) (hs : starEach [e] X.env = (false, eval e X.env) :: starEach [] X.env := by rfl)
    (hfew : ((backTo cpos (starEach [e] X.env)).all (fun x => !x.1) && (backToKw cpos (keywordEach [] X.env)).all (fun x => x.1.isSome) && decide ([e].length + ([] : List Keyword).length + (if ([] : List Keyword).isEmpty then 0 else 1) < 30)) = true := by rfl) : JE X W (.Call (.Attribute o "append" apos) [e] [] cpos) (dLm gApp to ta) :=
  je_lm PySem.F.slot_list_append PySem.F.type_list_append md_append ho ha hbase hfew hline hs rfl
end

/-! ### raise, try -/
def sRaise (x : Str) : TSd := fun env S N => N.ex ⟨x, []⟩ env S
theorem moRaise {x : Str} : MoS (sRaise x) := fun env S A B l h => l.ex _ _ _ h
theorem js_raise {X : Cx} {W : WX} {e : Expr} {x : Str} {C : Addr} {pos : Pos} (hc : X.calm = true) (tk : Takes X W) (hC : PySem.W.nsIn X.K mainGlobals x = some (some (.ref C))) (he : PMk X e (fun _ H Q => Q (.ref C) none H)) : JS X W (.Raise (some e) none pos) (sRaise x) := by
  refine ⟨PS.imp (ps_raise hc tk he) fun N σ H h => ?_, moRaise⟩
  obtain ⟨Z, env, S, re, rs, q⟩ := h
  exact q _ none σ H (.refl rs) re ⟨⟨C, hC, rfl⟩, rfl⟩
/-- a try whose body raises nothing -/
def sThru (t u : TSd) : TSd := fun env S N => t env S { N with nx := fun e s => u e s N, ex := fun _ _ _ => False }
theorem moThru {t u : TSd} (ht : MoS t) (hu : MoS u) : MoS (sThru t u) := fun env S A B l h => ht _ _ { A with nx := fun e s => u e s A, ex := fun _ _ _ => False } _ ⟨fun e s q => hu _ _ _ _ l q, l.rt, l.bk, l.ct, fun _ _ _ z => z⟩ h
end Bl

namespace Bl
open PySem PySem.Spec PyProof.Rows L2

/-! ### a def -/
/-- what the body makes of the arguments: n parameters, l names -/
def fnD (n l : Nat) (tb : TSd) : TFd := fun ds S Q E => ds.length = n ∧ tb (ds.map some ++ List.replicate (l - n) none) S ⟨fun _ S1 => Q .non S1, Q, fun _ _ => False, fun _ _ => False, fun x _ S1 => E x S1⟩
theorem moFn {n l : Nat} {tb : TSd} (h : MoS tb) : MoF (fnD n l tb) := fun ds S Q Q' E E' hq he q => ⟨q.1, h _ _ ⟨fun _ S1 => Q .non S1, Q, fun _ _ => False, fun _ _ => False, fun x _ S1 => E x S1⟩ _ ⟨fun _ _ z => hq _ _ z, hq, fun _ _ z => z, fun _ _ z => z, fun x _ S z => he x S z⟩ q.2⟩
section
variable {P : Program} {w : World} {K : PySem.W.Frag} {mg : Str → Option Value} {base : Heap} {N ps : List Str} {sc : Scope} {vw : Vw} {k : Nat}
/-- some context -/
theorem JD.some (sC : Sc N sc vw) (nd : N.Nodup) (hk : sc.kind = .function) (hr : Room k callerA) : ∃ X W, JD P w K mg base N sc vw k X W := by
  refine ⟨⟨P, w, K, mg, base, callerA, N, {}, fun _ => none, envOfC "" sc 0 0 .none, [], [envOfC "" sc 0 0 .none], [], fun _ => true, true, [], fun _ _ => False⟩, W0, ?_⟩
  exact { prog := rfl, ww := rfl, kk := rfl, gg := rfl, bb := rfl, nn := rfl, ss := rfl, sC := sC, nd := nd, calm := rfl, room := hr, tk := takes0, kd := hk, po := .never, fn := fun _ => rfl, hs := rfl, hf := rfl }
/-- a def's body keeps the promise -/
theorem fnOk_of {x qual : Str} {params : Arguments} {body : List Stmt} {scope : Scope} {f : Addr} {oc dV kV doc pm cdv ct : Value} {od an : Option Addr} {osl : Array (Option Value)} {tb : TSd} (lk : K.lookup f = some ⟨oc, od, .func (PySem.W.fnOf x qual params body scope dV kV doc pm an cdv ct), osl⟩) (hcd : PySem.W.codeIn K cdv qual = true)
    (S : FnScope N ps scope) (sC : Sc N scope vw) (h : ∀ X W, JD P w K mg base N scope vw k X W → JB X W body tb) :
    FnOk P w K mg base (L2.CX P w) (k + 1) f (PySem.W.fnOf x qual params body scope dV kV doc pm an cdv ct) ps (LSp K ps.length (fnD ps.length N.length tb)) := by
  refine fn_of lk hcd S (fun vs H Q E h => ?_) fun A outer s H vs Q E hr hsp => ?_
  · obtain ⟨Z, ds, S, hl, r, _⟩ := h
    rw [← r.length]
    exact hl
  · obtain ⟨Z, ds, S0, hl, r, rs, _, q⟩ := hsp
    have jd : JD P w K mg base N scope vw k (cxOf (L2.CX P w) P w K mg base N qual scope f cdv A outer s H E) fun cls d _ H => E cls d H :=
      { prog := rfl, ww := rfl, kk := rfl, gg := rfl, bb := rfl, nn := rfl, ss := rfl, sC := sC, nd := S.nd, calm := rfl, room := hr, tk := takes_of rfl rfl rfl rfl, kd := S.kind, po := passes_of rfl, fn := fun _ => rfl, hs := rfl, hf := rfl }
    have jb := h _ _ jd
    refine ⟨_, jb.ps, LS.of (K := ⟨K, Z⟩) jb.mo (env := ds.map some ++ List.replicate (N.length - ps.length) none) ?_ rs q ⟨fun _ S1 z σ' H' a _ => z _ H' a .non, fun d S1 z v H' a r => z v H' a r, fun _ _ z => z.elim, fun _ _ z => z.elim, fun x _ S1 z c dx σ' H' a _ rx => z c dx H' a rx⟩⟩
    have z := RE.start r (N.length - ps.length)
    unfold L2.start
    rw [← r.length, hl]
    exact z
theorem moS_of {scope : Scope} {body : List Stmt} {tb : TSd} (S : FnScope N ps scope) (sC : Sc N scope vw) (hr : Room k callerA) (h : ∀ X W, JD P w K mg base N scope vw k X W → JB X W body tb) : MoS tb := by
  obtain ⟨X, W, jd⟩ := JD.some (P := P) (w := w) (K := K) (mg := mg) (base := base) sC S.nd S.kind hr
  exact (h X W jd).mo
end

/-! ### the law -/
/-- a list of at most n ints is handed in, True comes out -/
def spLaw (K : PySem.W.Frag) (n : Nat) : Sp := fun vs H Q _ => ∃ (a : Addr) (ns : List Int), vs = [.ref a] ∧ SqL K H a (ns.map V.int) ∧ ns.length ≤ n ∧ Only H ∧ ∀ H', Q (.bl true) H'
theorem law_sp {K : PySem.W.Frag} {n : Nat} {m : TFd} (mo : MoF m) (h : ∀ ns : List Int, ns.length ≤ n → m [.lst (ns.map D.int)] (fun _ => none) (fun d _ => d = .bl true) fun _ _ => False) : ∀ vs H Q E, spLaw K n vs H Q E → LSp K 1 m vs H Q E := by
  intro vs H Q E hh
  obtain ⟨a, ns, rfl, hS, hl, ho, q⟩ := hh
  have r : Rp ⟨K, fun _ => False⟩ (fun _ => none) H (.lst (ns.map D.int)) (.ref a) := by
    rcases hS with hS | hS
    · exact .lst hS rfl (fun z => z) RpL.ints
    · exact .lstK hS RpL.ints
  refine ⟨fun _ => False, [.lst (ns.map D.int)], fun _ => none, rfl, .cons r .nil, ⟨fun _ _ e => (nomatch e), fun _ hb => False.elim hb⟩, mo _ _ _ _ _ _ (fun d S1 e v H' a2 r2 => ?_) (fun x S1 z => z.elim) (h ns hl)⟩
  subst e
  cases r2
  exact q H'
end Bl

namespace Bl
open PySem PySem.Spec PyProof.Rows L2

/-! ### n.bit_length() -/
def dBits (t : TEd) : TEd := fun env S Q E => t env S (fun d S' => match d with | .int i => Q (.int (Builtin.Int.intBits i : Nat)) S' | _ => False) E
theorem moBits {t : TEd} (h : MoE t) : MoE (dBits t) := fun env S Q Q' E E' hq he q => h _ _ _ _ _ _ (fun d S1 q1 => by
  cases d <;> first | exact hq _ _ q1 | exact q1) he q
section
variable {X : Cx} {W : WX} {o : Expr} {to : TEd} {apos pos : Pos}
theorem je_bits (ho : JE X W o to) (hbase : attributeBase o "bit_length" X.env (eval o X.env) = eval o X.env := by rfl) (hline : (apos.endLine == pos.line) = true := by rfl) : JE X W (.Call (.Attribute o "bit_length" apos) [] [] pos) (dBits to) := by
  refine ⟨PE.imp (pe_bits ho.pe hbase hline) fun σ H Q h => ?_, moBits ho.mo⟩
  obtain ⟨Z, env, S, re, rs, q⟩ := h
  refine LE.of ho.mo re rs q (fun d S1 x H1 q1 a1 r1 => ?_) fun x S1 c dx H1 q1 a1 r1 => q1 c dx H1 a1 r1
  cases d <;> first | exact q1.elim | skip
  cases r1
  exact ⟨_, rfl, q1 _ H1 a1 (.int _)⟩
end

/-! ### sorted, of whole numbers -/
def intsOf : List D → Option (List Int)
  | [] => some []
  | .int i :: ds => (intsOf ds).map (i :: ·)
  | _ => none
def bSort : GB := fun ds S Q => match ds with
  | [.lst xs] => match intsOf xs with
    | some ns => ns.length < 64 ∧ ∀ ns' : List Int, ns'.Perm ns → ns'.Pairwise (· ≤ ·) → Q (.lst (ns'.map D.int)) S
    | none => False
  | _ => False
theorem ints_rp {K : Kz} {S : Sto} {H : Hp} : ∀ {xs : List D} {bs : List Int} {vs : List V}, RpL K S H xs vs → intsOf xs = some bs → vs = bs.map V.int
  | [], _, _, h, e => by
    cases h
    cases e
    rfl
  | d :: ds, bs, _, h, e => by
    cases h with
    | cons h1 h2 =>
      cases d <;> first | cases e; done | skip
      rename_i b
      unfold intsOf at e
      cases e2 : intsOf ds with
      | none => rw [e2] at e; cases e
      | some cs =>
        rw [e2] at e
        cases e
        cases h1
        rw [ints_rp h2 e2]
        rfl
theorem cd_sort {X : Cx} : CallD X (.builtin "sorted") bSort := by
  refine ⟨fun ds S Q Q' h q => ?_, fun pins s σ H xs us Q I rv h => ?_⟩
  · unfold bSort at q ⊢
    split at q <;> first | exact q.elim | skip
    split at q <;> first | exact q.elim | exact ⟨q.1, fun ns' h1 h2 => h _ _ (q.2 ns' h1 h2)⟩
  · obtain ⟨Z, S, ds, rs, r, q⟩ := h
    unfold bSort at q
    split at q <;> first | exact q.elim | skip
    obtain ⟨v, rfl, r1⟩ := r.one
    obtain ⟨a, vs, rfl, hs, hl⟩ := r1.sqL
    split at q <;> first | exact q.elim | skip
    rename_i ns e
    have evq := ints_rp hl e
    subst evq
    exact cr_sorted pins s σ H _ us Q I rv ⟨a, ns, rfl, hs, q.1, fun ns' p h1 h2 hp => by
      obtain ⟨a2, r2⟩ := Rp.newL rs hp (RpL.ints (K := ⟨X.K, Z⟩) (S := S) (H := H) (ns := ns'))
      exact q.2 ns' h1 h2 _ _ a2 r2⟩

/-! ### a op= b -/
def fIadd : F2 := fun x y S Q => match x, y with
  | .int i, .int j => Q (.int (i + j)) S
  | .str i, .str j => i.length + j.length ≤ sizeLine ∧ Q (.str (i ++ j)) S
  | _, _ => False
theorem moIadd : MoF2 fIadd := by (intro x y S Q Q' h q; unfold fIadd at q ⊢; split at q <;> first | exact h _ _ q | exact ⟨q.1, h _ _ q.2⟩ | exact ⟨q.1, q.2.1, h _ _ q.2.2⟩ | exact q.elim)
section
variable {X : Cx}
theorem opD_iadd : OpD X (inplaceOp .Add) fIadd := by
  refine ⟨moIadd, fun pins s σ H x y v u Q Z S dx dy I rx ry rs r1 r2 h => ?_⟩
  cases r1 <;> cases r2 <;> first | exact h.elim | skip
  · exact iop_add pins s σ H _ _ v u Q I rx ry ⟨_, _, rfl, rfl, h _ H (.refl rs) (.int _)⟩
  · exact iop_add_str pins s σ H _ _ v u Q I rx ry ⟨_, _, rfl, rfl, h.1, h.2 _ H (.refl rs) (.str _)⟩
theorem opD_isub : OpD X (inplaceOp .Sub) fSub := by
  refine ⟨moSub, fun pins s σ H x y v u Q Z S dx dy I rx ry rs r1 r2 h => ?_⟩
  cases r1 <;> cases r2 <;> first | exact h.elim | skip
  exact iop_sub pins s σ H _ _ v u Q I rx ry ⟨_, _, rfl, rfl, h _ H (.refl rs) (.int _)⟩
theorem opD_imul : OpD X (inplaceOp .Mult) fMul := by
  refine ⟨moMul, fun pins s σ H x y v u Q Z S dx dy I rx ry rs r1 r2 h => ?_⟩
  cases r1 <;> cases r2 <;> first | exact h.elim | skip
  obtain ⟨t, rfl⟩ := rx
  obtain ⟨t', rfl⟩ := ry
  exact imul_int ⟨.int _, H, I.tok _, ⟨_, rfl⟩, h.2 _ H (.refl rs) (.int _)⟩ (IntMulOk.of' h.1)
end

/-! ### a try that is run through -/
section
variable {P : Program} {w : World} {K : PySem.W.Frag} {mg : Str → Option Value} {base : Heap} {N : List Str} {sc : Scope} {vw : Vw} {k : Nat} {X : Cx} {W : WX}
theorem JD.nox (d : JD P w K mg base N sc vw k X W) : JD P w K mg base N sc vw k X.nox W0 :=
  { prog := d.prog, ww := d.ww, kk := d.kk, gg := d.gg, bb := d.bb, nn := d.nn, ss := d.ss, sC := d.sC, nd := d.nd, calm := d.calm, room := d.room, tk := takes0, kd := d.kd, po := .never, fn := d.fn, hs := d.hs, hf := d.hf }
theorem js_thru {body : List Stmt} {h₀ : ExceptHandler} {hs : List ExceptHandler} {t : TSd} {pos : Pos} (d : JD P w K mg base N sc vw k X W) (hb : ∀ X2 W2, JD P w K mg base N sc vw k X2 W2 → JB X2 W2 body t) : JS X W (.Try body (h₀ :: hs) [] [] pos) (sThru t sNx) := by
  have jb := hb _ _ d.nox
  refine ⟨PS.imp (ps_try_thru0 jb.ps) fun N σ H h => ?_, moThru jb.mo moNx⟩
  obtain ⟨Z, env, S, re, rs, q⟩ := h
  exact LS.of (K := ⟨X.K, Z⟩) jb.mo re rs q ⟨fun _ _ z => z, fun _ _ z => z, fun _ _ z => z, fun _ _ z => z, fun _ _ _ z => z.elim⟩
end

/-! ### constants of the module -/
/-! ### defs with defaults -/
section
variable {P : Program} {w : World} {K : PySem.W.Frag} {mg : Str → Option Value} {base : Heap} {N ps : List Str} {vw : Vw} {k : Nat}
end
end Bl

namespace Bl
open PySem PySem.Spec PyProof.Rows L2

/-! ### pairs stored from the right -/
theorem blk_fn {env : Env} (h : env.scope.kind = .function) : env.blockKind = .function := by unfold Env.blockKind; rw [h]; rfl
def isStar : Expr → Bool
  | .Starred .. => true
  | _ => false
def swNm (env : Env) (line : Nat) : Expr → Option Str
  | .Name id pos => if env.kindOf id == some .local && pos.line == line then some id else none
  | _ => none
theorem sw_eq {ts vs : List Expr} {kt k2 : Nat} {pt pt2 : Pos} {env : Env} (hk : env.scope.kind = .function) (hl : ts.length = 2 ∨ ts.length = 3) (hv : vs.length = ts.length) (hs : vs.any isStar = false) :
    swappedStores [.Tuple ts kt pt] (.Tuple vs k2 pt2) env = (do
      let names := ts.filterMap (swNm env ((ts.head?.map (·.pos.line)).getD 0))
      if names.length != ts.length || names.eraseDups.length != names.length then return none
      if vs.all (foldedForSure 8) then return none
      if vs.all (constantsAlone 8) then unsupported "assign.tuple-of-constant-expressions:order-of-the-stores"
      return some names) := by
  have e1 : (!(ts.length == 2 || ts.length == 3) || vs.length != ts.length || env.blockKind != .function) = false := by
    rw [blk_fn hk, hv]
    rcases hl with h | h <;> rw [h] <;> rfl
  unfold swappedStores
  show (if (!(ts.length == 2 || ts.length == 3) || vs.length != ts.length || env.blockKind != .function) = true then (pure none : Sem (Option (List Str))) else if vs.any isStar = true then pure none else _) = _
  rw [e1, hs]
  rfl
theorem sw2 {x y : Str} {p q : Expr} {px py pt pt2 : Pos} {kt k2 : Nat} {env : Env} (hk : env.scope.kind = .function) (hx : env.scope.names.lookup x = some .local) (hy : env.scope.names.lookup y = some .local) (hl : (py.line == px.line) = true) (hne : (y == x) = false)
    (hs : [p, q].any isStar = false) (hf : [p, q].all (foldedForSure 8) = false) (hc : [p, q].all (constantsAlone 8) = false) : swappedStores [.Tuple [.Name x px, .Name y py] kt pt] (.Tuple [p, q] k2 pt2) env = pure (some [x, y]) := by
  rw [sw_eq (ts := [.Name x px, .Name y py]) (vs := [p, q]) hk (.inl rfl) rfl hs]
  have kx : env.kindOf x = some .local := hx
  have ky : env.kindOf y = some .local := hy
  have e1 : (some NameKind.local == some NameKind.local) = true := rfl
  have e : [Expr.Name x px, .Name y py].filterMap (swNm env px.line) = [x, y] := by
    simp only [List.filterMap_cons, List.filterMap_nil, swNm, kx, ky, e1, hl, beq_self_eq_true, Bool.and_self, if_true]
  show (do
      let names := [Expr.Name x px, .Name y py].filterMap (swNm env px.line)
      if names.length != 2 || names.eraseDups.length != names.length then return none
      if [p, q].all (foldedForSure 8) then return none
      if [p, q].all (constantsAlone 8) then unsupported "assign.tuple-of-constant-expressions:order-of-the-stores"
      return some names) = _
  rw [e, hf, hc]
  have e5 : [x, y].eraseDups.length = 2 := by simp [List.eraseDups_cons, hne]
  simp only [e5]
  rfl
section
variable {P : Program} {w : World} {K : PySem.W.Frag} {mg : Str → Option Value} {base : Heap} {N ps : List Str} {vw : Vw} {k : Nat} {X : Cx} {W : WX}
/-! ### defs by their data -/
/-- no defaults by places, called by places -/
theorem jf_mkN {x qual : Str} {params : Arguments} {body : List Stmt} {scope : Scope} {kws : List (Str × V)} {f : Addr} {fd : FuncData} {tb : TSd} (F : FunD K x qual params body scope [] kws f fd) (S : FnScope N ps scope) (sC : Sc N scope vw) (mgx : mg x = some (.ref f)) (hr : Room k callerA)
    (hb : ∀ (kV doc pm : Value) (an : Option Addr) (cdv ct : Value) (us : List Value), us.length = ps.length → bindArgs (PySem.W.fnOf x qual params body scope .none kV doc pm an cdv ct) ⟨us, []⟩ = pure (ps.zip us))
    (h : ∀ X W, JD P w K mg base N scope vw k X W → JB X W body tb) : JF P w K mg base x ps.length [] (fun ds _ => ds) (k + 1) (fnD ps.length N.length tb) := by
  obtain ⟨oc, od, dV, kV, doc, pm, an, cdv, ct, osl, rfl, lk, hcd, hD, _⟩ := F.ex
  rcases hD with ⟨_, rfl⟩ | ⟨e, _⟩
  · refine ⟨⟨f, _, ps, fun us _ => us, fun vs _ => vs, mgx, F.kp, fnOk_of lk hcd S sC h, ⟨fun s us ws _ l1 l2 => ?_, fun r _ => r⟩, fun Z S H ds zs vs ws r _ l1 _ => ⟨r, l1⟩⟩, moFn (moS_of S sC hr h)⟩
    exact .of_eq (hb kV doc pm an cdv ct us l1)
  · exact absurd rfl e
/-- no defaults by places, called by places and all keywords -/
theorem jf_mkW {x qual : Str} {params : Arguments} {body : List Stmt} {scope : Scope} {kws : List (Str × V)} {f : Addr} {fd : FuncData} {tb : TSd} (np : Nat) (ks : List Str) (F : FunD K x qual params body scope [] kws f fd) (S : FnScope N ps scope) (sC : Sc N scope vw) (mgx : mg x = some (.ref f)) (hr : Room k callerA)
    (g : {α : Type} → List α → List α → List α) (hg : ∀ {us : List D} {ws : List D}, us.length = np → ws.length = ks.length → (g us ws).length = ps.length)
    (hrel : ∀ {Z S H} {ds zs : List D} {vs ws : List V}, RpL ⟨K, Z⟩ S H ds vs → RpL ⟨K, Z⟩ S H zs ws → ds.length = np → zs.length = ks.length → RpL ⟨K, Z⟩ S H (g ds zs) (g vs ws))
    (hrel2 : ∀ {vs zs : List V} {us ws : List Value}, Vals vs us → Vals zs ws → vs.length = np → zs.length = ks.length → Vals (g vs zs) (g us ws))
    (hb : ∀ (kV doc pm : Value) (an : Option Addr) (cdv ct : Value) (us ws : List Value), us.length = np → ws.length = ks.length → bindArgs (PySem.W.fnOf x qual params body scope .none kV doc pm an cdv ct) ⟨us, ks.zip ws⟩ = pure (ps.zip (g us ws)))
    (h : ∀ X W, JD P w K mg base N scope vw k X W → JB X W body tb) : JF P w K mg base x np ks (fun a b => g a b) (k + 1) (fnD ps.length N.length tb) := by
  obtain ⟨oc, od, dV, kV, doc, pm, an, cdv, ct, osl, rfl, lk, hcd, hD, _⟩ := F.ex
  rcases hD with ⟨_, rfl⟩ | ⟨e, _⟩
  · refine ⟨⟨f, _, ps, fun us ws => if us.length = np ∧ ws.length = ks.length then g us ws else us ++ ws, fun vs ws => if vs.length = np ∧ ws.length = ks.length then g vs ws else vs ++ ws, mgx, F.kp, fnOk_of lk hcd S sC h, ⟨fun s us ws _ l1 l2 => ?_, fun {vs us zs ws} r r2 => ?_⟩, fun Z S H ds zs vs ws r r2 l1 l2 => ⟨?_, hg l1 l2⟩⟩, moFn (moS_of S sC hr h)⟩
    · rw [if_pos ⟨l1, l2⟩]
      exact .of_eq (hb kV doc pm an cdv ct us ws l1 l2)
    · by_cases hh : vs.length = np ∧ zs.length = ks.length
      · rw [if_pos hh, if_pos ⟨by rw [← r.length]; exact hh.1, by rw [← r2.length]; exact hh.2⟩]
        exact hrel2 r r2 hh.1 hh.2
      · rw [if_neg hh, if_neg fun z => hh ⟨by rw [r.length]; exact z.1, by rw [r2.length]; exact z.2⟩]
        exact r.append r2
    · show RpL ⟨K, Z⟩ S H (g ds zs) (if vs.length = np ∧ ws.length = ks.length then g vs ws else vs ++ ws)
      rw [if_pos ⟨by rw [← r.length]; exact l1, by rw [← r2.length]; exact l2⟩]
      exact hrel r r2 l1 l2
  · exact absurd rfl e
/-- with defaults by places; of np values the defaults behind the first j fill up -/
theorem jf_mkF {x qual : Str} {params : Arguments} {body : List Stmt} {scope : Scope} {dvs : List V} {kws : List (Str × V)} {f : Addr} {fd : FuncData} {tb : TSd} (np j : Nat) (dds : List D) (F : FunD K x qual params body scope dvs kws f fd) (S : FnScope N ps scope) (sC : Sc N scope vw) (mgx : mg x = some (.ref f)) (hr : Room k callerA)
    (hd : dvs ≠ []) (hn : np + (dvs.length - j) = ps.length) (hdd : ∀ Z S H, RpL ⟨K, Z⟩ S H dds (dvs.drop j))
    (hb : ∀ (T : Addr) (kV doc pm : Value) (an : Option Addr) (cdv ct : Value) (us its : List Value), us.length = np → its.length = dvs.length →
      ∃ k, bindArgs (PySem.W.fnOf x qual params body scope (.ref T) kV doc pm an cdv ct) ⟨us, []⟩ = seqItems? (.ref T) >>= k ∧ k (some its.toArray) = pure (ps.zip (us ++ its.drop j)))
    (h : ∀ X W, JD P w K mg base N scope vw k X W → JB X W body tb) : JF P w K mg base x np [] (fun ds _ => ds ++ dds) (k + 1) (fnD ps.length N.length tb) := by
  obtain ⟨oc, od, dV, kV, doc, pm, an, cdv, ct, osl, rfl, lk, hcd, hD, _⟩ := F.ex
  rcases hD with ⟨e, _⟩ | ⟨_, T, o, its, m, rfl, lT, oT, rT⟩
  · exact absurd e hd
  · refine ⟨⟨f, _, ps, fun us _ => us ++ its.drop j, fun vs _ => vs ++ dvs.drop j, mgx, F.kp, fnOk_of lk hcd S sC h, ⟨fun s us ws X l1 l2 => ?_, fun {vs us zs ws} r1 r2 => r1.append (rT.drop j)⟩, fun Z S H ds zs vs ws r _ l1 _ => ⟨r.append (hdd _ _ _), ?_⟩⟩, moFn (moS_of S sC hr h)⟩
    · obtain ⟨k, e1, e2⟩ := hb T kV doc pm an cdv ct us its l1 rT.length.symm
      refine BindsTo.of_looks fun M => ?_
      show PySem.W.Looks M s.heap (bindArgs _ ⟨us, []⟩) _
      rw [e1]
      exact looks_items X lT oT (.of_pure e2)
    · rw [List.length_append, l1, (hdd Z S H).length, List.length_drop, hn]
/-- a def's promise, its object kept -/
theorem ok_mkN {x qual : Str} {params : Arguments} {body : List Stmt} {scope : Scope} {kws : List (Str × V)} {f : Addr} {fd : FuncData} {tb : TSd} (F : FunD K x qual params body scope [] kws f fd) (S : FnScope N ps scope) (sC : Sc N scope vw)
    (h : ∀ X W, JD P w K mg base N scope vw k X W → JB X W body tb) : FnOk P w K mg base (L2.CX P w) (k + 1) f fd ps (LSp K ps.length (fnD ps.length N.length tb)) := by
  obtain ⟨oc, od, dV, kV, doc, pm, an, cdv, ct, osl, rfl, lk, hcd, hD, _⟩ := F.ex
  exact fnOk_of lk hcd S sC h
theorem mm {α : Type} {l : List α} {a : α} (j : Nat) (h : l[j]? = some a := by rfl) : a ∈ l := List.mem_of_getElem? h
/-- what the top tells: facts, defs, one thing more -/
structure Tp (fa : List He.Fa) (fn : List He.DefD) (bx : PySem.W.Frag → Bool) (K : PySem.W.Frag) (mg : Str → Option Value) : Prop where
  sy : He.SaysD fa fn K
  bx : bx K = true
  gl : ∀ x, (He.Fa.glo x).ok K = true → mg x = some (.ref (He.ga K x))
  fr : ∀ x, (He.Fa.free x).ok K = true → mg x = none
section
variable {fa : List He.Fa} {fn : List He.DefD} {bx : PySem.W.Frag → Bool}
theorem Tp.mk' {h : Heap} (X : K.In h) (G : h.Ns mainGlobals mg) (c : He.SaysD fa fn K ∧ bx K = true) : Tp fa fn bx K mg := ⟨c.1, c.2, fun _ q => He.glo_ok X G q, fun _ q => He.free_ok X G q⟩
theorem Tp.glo (T : Tp fa fn bx K mg) (i : Nat) {x : Str} (h : fa[i]? = some (.glo x) := by rfl) : mg x = some (.ref (He.ga K x)) := T.gl x (T.sy.fact i h)
theorem Tp.free (T : Tp fa fn bx K mg) (i : Nat) {x : Str} (h : fa[i]? = some (.free x) := by rfl) : mg x = none := T.fr x (T.sy.fact i h)
end
/-- a tuple of the top, of whole numbers -/
def tupI (K : PySem.W.Frag) (x : Str) (ns : List Int) : Bool := He.tupB K x (ns.map He.Dv.int)
theorem gc_tupI {x : Str} {ns : List Int} (hm : mg x = some (.ref (He.ga K x))) (h : tupI K x ns = true) : GC K mg x (.tup (ns.map D.int)) := by
  refine ⟨_, .ref (He.ga K x), hm, rfl, fun Z S H => .tup (He.tupB_ok h H) ?_⟩
  rw [List.map_map]
  exact RpL.ints
end

/-! ### the head's reading -/
def hookX (n : Nat) (fa : List He.Fa) (fn : List He.DefD) (bx : PySem.W.Frag → Bool) : PySem.W.Hook where
  α := Bool × He.AlD
  obs := fun s => (bx (He.frG s.heap.get? (He.asD s.heap.get? n)), He.obsDG n fa fn s.heap.get?)
  val := fun _ => (true, He.valD fn)
  says := fun _ h => ∃ K : PySem.W.Frag, K.In h ∧ He.SaysD fa fn K ∧ bx K = true
  of := fun _ _ e => ⟨_, He.frG_in, congrArg (fun z : Bool × He.AlD => z.2) e, congrArg (fun z : Bool × He.AlD => z.1) e⟩
  keeps := fun _ _ _ ⟨K, hK, c⟩ k => ⟨K, PySem.W.Frag.In.keeps hK k, c⟩
def obX (n : Nat) (fa : List He.Fa) (fn : List He.DefD) (bx : PySem.W.Frag → Bool) (s : PySem.W.SharedT) : Bool × He.AlD := (bx (He.frG (HandSHeadRun.getT s) (He.asD (HandSHeadRun.getT s) n)), He.obsDG n fa fn (HandSHeadRun.getT s))
theorem obX_eq {n : Nat} {fa : List He.Fa} {fn : List He.DefD} {bx : PySem.W.Frag → Bool} (s : PySem.W.SharedT) : obX n fa fn bx s = (hookX n fa fn bx).obs s.abs := by
  have e : HandSHeadRun.getT s = s.abs.heap.get? := funext (HandSHeadRun.getT_eq s)
  unfold obX
  rw [e]
  rfl
/-- the end, what leaves a call told of each world -/
theorem walk_ofX {l : PySem.W.OpenLaw} {n k : Nat} {q : Program} {loose : List Str} {XP : (Str → Option Value) → Heap → Prop} {YP : World → Heap → Prop} {d : DefRec} {x : Str} (hn : l.most = some n) (hn2 : n ≤ sizeLine) (hdf : d.params.defaults = []) (hr : Room k callerA)
    (F : ∀ (w : World) (mg : Str → Option Value) (fa : Addr) (h : Heap), YP w h → h.Ns mainGlobals mg → mg d.name = some (.ref fa) → ∃ (K : PySem.W.Frag) (fd : FuncData), K.In h ∧ (∀ (s : Shared) (u : Value), BindsTo s fd ⟨[u], []⟩ [(x, u)]) ∧ ∀ base : Heap, K.In base → base.Ns mainGlobals mg → FnOk l.prog w K mg base (L2.CX l.prog w) k fa fd [x] (spLaw K n)) : PySem.W.WalkO q loose XP YP l.row.toRowW d [] (fun f vs => PySem.call f vs) := by
  refine Att.attach_call hn hdf fun w s0 s1 mg mb fa o pm cd doc a vs ns G Y ho hd hcd hmg hobj hints hlen hg => ?_
  obtain ⟨K, fd, KX, hb, hF⟩ := F w mg fa _ Y G.T.g hmg
  refine law_call KX G.T.g G.T.b G.T.builtins G.T.nolimit hg hobj hints (Nat.le_trans hlen hn2) hr hF hb (fun H hO hS => ⟨a, ns, rfl, hS, hlen, hO, fun _ => rfl⟩) fun H e s' z => ?_
  obtain ⟨_, _, _, _, _, _, _, _, _, _, _, _, z⟩ := z
  exact z
end Bl

namespace Bl
open PySem PySem.Spec PyProof.Rows L2
/-! ### monotony by shape -/
end Bl

namespace Bl
open PySem PySem.Spec PyProof.Rows L2
/-! ### within an except suite: no calls of defs, nothing is raised -/
structure JC0 (K : PySem.W.Frag) (mg : Str → Option Value) (N : List Str) (sc : Scope) (vw : Vw) (X : Cx) : Prop where
  kk : X.K = K
  gg : X.mg = mg
  nn : X.N = N
  ss : X.env.scope = sc
  sC : Sc N sc vw
  nd : N.Nodup
section
variable {K : PySem.W.Frag} {mg : Str → Option Value} {N : List Str} {sc : Scope} {vw : Vw} {X : Cx} {W : WX}
theorem JC0.gl (c : JC0 K mg N sc vw X) {x : Str} (h : x ∈ vw.gs) : Gl X x := by
  show X.env.scope.names.lookup x = some .globalImplicit
  rw [c.ss]
  exact (c.sC.gl x h).1
end
/-! ### isinstance of the one that is held -/
def vOfU : Value → V
  | .ref C => .ref C
  | .type T => .ty T
  | _ => .non
section
variable {K : PySem.W.Frag} {mg : Str → Option Value} {N : List Str} {sc : Scope} {vw : Vw} {X : Cx} {W : WX}
/-- the suite's context: a of the class D -/
structure JX (K : PySem.W.Frag) (mg : Str → Option Value) (N : List Str) (sc : Scope) (vw : Vw) (a Dc : Addr) (X : Cx) : Prop extends JC0 K mg N sc vw X where
  xc : ∃ (X0 : Cx) (oe : Obj) (pn : List (Addr × Obj)), X = X0.suite a ((a, oe) :: pn) ∧ Zc (.ref Dc) none oe ∧ ∃ vs, oe.data = .fields vs
/-- the classes by their names, as arguments -/
structure PCls (X : Cx) (es : List Expr) (us : List Value) : Prop where
  pa : ∃ ta, PA X es ta ∧ (∀ σ H (Q : List V → Hp → Prop), Q (us.map vOfU) H → ta σ H Q)
  rel : ∀ ws, Vals (us.map vOfU) ws → ws = us
end

/-! ### try, except C as n -/
def ndS (i : Nat) (N : Nd) : Nd := ⟨fun e s => N.nx (e.set i none) s, N.rt, fun e s => N.bk (e.set i none) s, fun e s => N.ct (e.set i none) s, fun _ _ _ => False⟩
/-- sb: of each class that may fly, whether the clause takes it -/
def ndT (sb : Str → Option Bool) (i : Nat) (u : Addr → Str → TSd) (N : Nd) : Nd := ⟨N.nx, N.rt, N.bk, N.ct, fun x e S1 => match sb x.nm with
  | some true => x.fs = [] ∧ ∀ a, u a x.nm (e.set i (some (.obj a))) S1 (ndS i N)
  | some false => N.ex x e S1
  | none => False⟩
def sTryAs (t : TSd) (sb : Str → Option Bool) (i : Nat) (u : Addr → Str → TSd) : TSd := fun env S N => t env S (ndT sb i u N)
section
variable {P : Program} {w : World} {K : PySem.W.Frag} {mg : Str → Option Value} {base : Heap} {N : List Str} {sc : Scope} {vw : Vw} {k : Nat} {X : Cx} {W : WX}
end

/-! ### what the head tells of exceptions -/
/-- a class's value by its name -/
def clU (K : PySem.W.Frag) (x : Str) : Value := match PySem.W.nsIn K mainGlobals x with
  | some (some (.ref C)) => .ref C
  | _ => match bootBuiltins x with
    | some (.type T) => .type T
    | _ => .none
def kitB (K : PySem.W.Frag) (D : Str) (xs : List Str) (b : Bool) : Bool := decide (PySem.W.kitAny K (.ref (He.ga K D)) (xs.map (clU K)) = some b)
/-! ### keyword-only defaults that fill up -/
section
variable {P : Program} {w : World} {K : PySem.W.Frag} {mg : Str → Option Value} {base : Heap} {N ps : List Str} {vw : Vw} {k : Nat}
end

section
variable {P : Program} {w : World} {K : PySem.W.Frag} {mg : Str → Option Value} {base : Heap} {N : List Str} {sc : Scope} {vw : Vw} {k : Nat} {X : Cx} {W : WX}
/-- raise C('..'), C an own class under ValueError -/
theorem js_raiseV (c : JC P w K mg base N sc vw k X W) {x m : Str} {j : Nat} {p p2 p3 pos : Pos} (hx : x ∈ vw.gs) (hg : (He.Fa.glo x).ok K = true) (he : (He.Fa.exc x).ok K = true) (hm : mg x = some (.ref (He.ga K x))) : JS X W (.Raise (some (.Call (.Name x p) [.Constant (.str m) j p2] [] p3)) none pos) (sRaise x) := by
  obtain ⟨h1, h2, h3, h4⟩ := He.exc_ok he
  have e : PySem.W.nsIn K mainGlobals x = some (some (.ref (He.ga K x))) := He.eqO_ok hg
  have hk := c.kk
  subst hk
  exact js_raise c.calm c.tk e (pmk_own PySem.F.excBase_ValueError h1 (by rw [c.gg]; exact hm) h2 (raises_own h3 h4) (c.gl hx) (c.sC.gl x hx).2.2)
end
theorem all_at {l : List (PySem.W.Frag → Bool)} {K : PySem.W.Frag} (h : (l.all fun f => f K) = true) (i : Nat) {f : PySem.W.Frag → Bool} (e : l[i]? = some f) : f K = true := List.all_eq_true.mp h f (List.mem_of_getElem? e)
end Bl

/-! a, *b, c = xs -/
namespace Bl
open PySem PySem.Spec PyProof.Rows L2
section
variable {prog : Program} {w : World} {A : Around} {E : Value → Shared → Prop} {s : Shared}
end
/-- the items as they are stored: i ahead, those between as a list, aft behind -/
def starD (i aft : Nat) (ds : List D) : List D := ds.take i ++ [.lst ((ds.drop i).take (ds.length - i - aft))] ++ (ds.drop i).drop (ds.length - i - aft)
section
variable {X : Cx} {W : WX}
end
/-- a, *b, c = x -/
def starK (i aft : Nat) (gs : List Tg) (d : D) (env : Ev) (S : Sto) (nx : Ev → Sto → Prop) : Prop := match itemsOf S d with
  | some ds => i + aft ≤ ds.length ∧ match asgL S gs (starD i aft ds) env with
    | some e => nx e S
    | none => False
  | none => False
def sStar (te : TEd) (i aft : Nat) (gs : List Tg) : TSd := fun env S N => te env S (fun d S1 => starK i aft gs d env S1 N.nx) fun x S1 => N.ex x env S1
end Bl

/-! enumerate, zip, reversed over lists and tuples -/
namespace Bl
open PySem PySem.Spec PyProof.Rows L2
theorem meets_enum1 {v : Value} {o : Obj} {H : Heap → Prop} (B : Begins v o H) :
    Meets (Builtin.«enumerate.__new__» ⟨[.type "enumerate", v], []⟩) (fun _ R s => H s.heap ∧
      R (.ok (.ret (.ref (s.heap.push o).objs.size))) { s with heap := (s.heap.push o).push { cls := .type "enumerate", data := .fields #[.none, .bool false, .ref s.heap.objs.size, rawInt 0, .none, .none] } }) :=
  .of_wp fun prog w A R s h => by
    obtain ⟨hp, g, d, tk, os⟩ := s; obtain ⟨h1, h⟩ := h
    have hsub := sub_enumerate
    have q1 : ∀ {A' : Around} {E : Value → Shared → Prop} {Q : Value → Shared → Prop}, Q (.ref hp.objs.size) ⟨hp.push o, g, d, tk, os⟩ → wpAny (model prog w) A' (pyIter v) Q E ⟨hp, g, d, tk, os⟩ :=
      fun q => B.iter prog w _ _ ⟨hp, g, d, tk, os⟩ _ h1 q
    wp_walk using q1
    refine wpAny_stack_any fun st => wpAny_pure ?_
    split
    · rename_i c _ _ _ _ _
      cases (c == Value.type "enumerate")
      · wp_walk using q1
        exact ⟨_, rfl, h⟩
      · wp_walk using q1
        exact ⟨_, rfl, h⟩
    · wp_walk using q1
      exact ⟨_, rfl, h⟩
section
variable {prog : Program} {w : World} {A : Around} {E : Value → Shared → Prop} {s : Shared}
theorem enum_begins1 {v : Value} {o : Obj} {H : Heap → Prop} {Q : Value → Shared → Prop} (B : Begins v o H) (h1 : H s.heap)
    (h : ∀ h', IsEnum h' (s.heap.objs.size + 1) s.heap.objs.size 0 .none → h'.get? s.heap.objs.size = some o → h'.objs.size = s.heap.objs.size + 2 →
      (∀ b o, s.heap.get? b = some o → h'.get? b = some o) → Q (.ref (s.heap.objs.size + 1)) { s with heap := h' }) :
    wpAny (model prog w) A (call (.type "enumerate") [v]) Q E s := by
  refine callType_new F.called_enumerate (by decide) (F.typeCall_enumerate_1 _) (F.newCall_enumerate_1 _) (fun obj => F.args_object_init_2 obj _) F.entry_enumerate_new
    (meets_enum1 B) ⟨h1, ?_⟩
  have hz : (s.heap.push o).objs.size = s.heap.objs.size + 1 := Heap.size_push ..
  show _ ∧ _
  rw [hz]
  have he : IsEnum ((s.heap.push o).push { cls := .type "enumerate", data := .fields #[.none, .bool false, .ref s.heap.objs.size, rawInt 0, .none, .none] }) (s.heap.objs.size + 1) s.heap.objs.size 0 .none := by
    have := Heap.get?_push_size (s.heap.push o) (o := { cls := .type "enumerate", data := .fields #[.none, .bool false, .ref s.heap.objs.size, rawInt 0, .none, .none] }) rfl
    rw [hz] at this; exact this
  refine ⟨⟨_, he, rfl⟩, h _ he (Heap.get?_push_of_some _ (Heap.get?_push_size _ B.free)) (by rw [Heap.size_push, hz]) fun b o x => Heap.get?_push_of_some _ (Heap.get?_push_of_some _ x)⟩
end
/-- the tuple at a, each item in a new pair -/
def IteT (K : PySem.W.Frag) (a : Addr) : It :=
  ⟨fun i H => ∃ (xs : List V) (x : V), SqT K H a xs ∧ xs[i]? = some x, fun i H v H' => ∃ T x, v = .ref T ∧ H T = none ∧ H' = upd H T (.tup [.int (i : Nat), x]) ∧ ∀ xs, SqT K H a xs → xs[i]? = some x, fun i H => ∃ xs : List V, SqT K H a xs ∧ xs.length = i⟩
theorem turn_enumT {P : Program} {w : World} {K : PySem.W.Frag} {elts : List Expr} {kk : Nat} {tpos : Pos} (a e it : Addr) (hai : a ≠ it) (hea : e ≠ a) :
    Turn P w K (.Tuple elts kk tpos) (IteT K a) [e, it] e (fun i h => (∃ old, IsEnum h e it ((i : Nat) : Int) old) ∧ h.IsTupleIter it a i ∧ e ≠ it) where
  mem := by simp
  obj := fun i h st b hb => by
    obtain ⟨⟨old, he⟩, ⟨o, ho, hc, hd⟩, _⟩ := st
    have e' : b = e ∨ b = it := by simpa using hb
    rcases e' with z | z
    · rw [z]; exact ⟨_, he, fun v q => nomatch q⟩
    · rw [z]; exact ⟨o, ho, fun v q => by rw [hd] at q; cases q⟩
  keep := fun i h h' st k => let ⟨⟨old, he⟩, hi, hne⟩ := st; ⟨⟨old, k e (by simp) _ he⟩, hi.at fun o q => k it (by simp) o q, hne⟩
  item := by
    intro X hP hw hK hc i pins s σ H E I hf st hg
    subst hP hw hK
    obtain ⟨⟨old, he⟩, hit, hne⟩ := st
    obtain ⟨xs, x, hq, hx⟩ := hg
    obtain ⟨its, rv, p, hz⟩ := I.tuple hq
    obtain ⟨u, hu, ru⟩ := rv.get hx
    have hel : e < s.heap.objs.size := Heap.lt_size he
    have hil : it < s.heap.objs.size := by obtain ⟨_, q, _⟩ := hit; exact Heap.lt_size q
    have hef : e ∉ [it, a] := fun hm => by
      rcases List.mem_cons.mp hm with z | z
      · exact hne z
      · exact hea (List.mem_singleton.mp z)
    have hui : its.toArray[i]? = some u := by simpa using hu
    have hin : i < its.toArray.size := (Array.getElem?_eq_some_iff.mp hui).1
    refine wpAny_pyNext_enum_itemD (Draws.tuple (A := X.A.in1) (I.ok.hd hc) it a hai its.toArray) he ⟨hit, p⟩ hin hne hef fun x' h' tk hp ho hit' hT hsz hk => ?_
    have ex : x' = u := by
      have z : its.toArray[i]? = some x' := hp
      rw [hui] at z
      exact (Option.some.inj z).symm
    subst ex
    refine ⟨_, rfl, wpAny_letOwnedTupleGo_enum (s := { s with heap := h', toks := tk + 1 }) ho fun h'' he' sb => ?_⟩
    have hT2 : h''.get? s.heap.objs.size = some { cls := .type "tuple", data := .seq #[.int i tk, x'] } := (sb.2 _ (Nat.ne_of_gt hel)).trans hT
    have new : ObjOk X.prog X.w (upd H s.heap.objs.size (.tup [.int (i : Nat), x])) h'' s.heap.objs.size (.tup [.int (i : Nat), x]) :=
      ⟨by show 2 ≤ sizeLine; decide, [.int i tk, x'], .cons ⟨_, rfl⟩ (.cons ru .nil), ⟨_, hT2, rfl, _, rfl⟩⟩
    have I1 : Inv X pins σ (upd H s.heap.objs.size (.tup [.int (i : Nat), x])) { s with heap := h'', toks := tk + 1 } :=
      I.turnedNew (ch := [e, it]) (fun b ob hb q => (sb.2 b (fun z => hb (by simp [z]))).trans (hk b ob (fun z => hb (by simp [z])) (fun z => hb (by simp [z])) q)) hf (Nat.le_refl _) new
    refine ⟨.ref s.heap.objs.size, _, I1, rfl, ⟨_, x, rfl, I.hok.fresh (Nat.le_refl _), rfl, fun ys hy => by rw [I.tuple_inj hy hq]; exact hx⟩, ⟨⟨x', ?_⟩, hit'.1.at fun o q => (sb.2 it (Ne.symm hne)).trans q, hne⟩, fun b hb => ?_⟩
    · have e1 : ((i + 1 : Nat) : Int) = (i : Int) + 1 := by omega
      rw [e1]; exact he'
    · have hb' : b < s.heap.objs.size := by
        have e' : b = e ∨ b = it := by simpa using hb
        rcases e' with z | z
        · rw [z]; exact hel
        · rw [z]; exact hil
      rw [upd_ne (Nat.ne_of_lt hb')]
      exact (hf b hb).1
  done := by
    intro X hP hw hK hc i pins s σ H E I hf st hg
    subst hP hw hK
    obtain ⟨⟨old, he⟩, hit, hne⟩ := st
    obtain ⟨xs, hq, hx⟩ := hg
    obtain ⟨its, rv, p, hz⟩ := I.tuple hq
    obtain ⟨f0, f1, f2, f3, f4, f5⟩ := hf it (by simp)
    have hl := rv.length
    have ei : i = its.toArray.size := by rw [List.size_toArray]; omega
    rw [ei] at hit
    exact wpAny_pyNext_enum_endD (Draws.tuple (A := X.A.in1) (I.ok.hd hc) it a hai its.toArray) he ⟨hit, p⟩ fun h' eb => ⟨rfl, I.turned (t' := s.toks) (fun b o hb q => eb b o hb q) f0 f1 f3 f4 f5⟩
  self := fun A i s Q E st h => let ⟨⟨_, he⟩, _⟩ := st; wpAny_pyIter_enum he h
theorem walk_enumT {K : PySem.W.Frag} {a : Addr} {xs : List V} : Walk (IteT K a) xs.length (fun H => SqT K H a xs) (YPair (fun i => some (.int (i : Nat))) (fun i => xs[i]?)) := by
  refine ⟨fun i _ hi q => ⟨xs, xs[i], q, by simp [hi]⟩, fun _ q => ⟨xs, q, rfl⟩, fun i H v H' _ q y => ?_⟩
  obtain ⟨T, x, h1, h2, h3, h4⟩ := y
  exact ⟨T, .int (i : Nat), x, h1, h2, h3, rfl, h4 xs q⟩
def iEnumA (K : PySem.W.Frag) (ta : TA) : TI := fun σ H R => ta σ H fun vs H1 => ∃ a xs, vs = [.ref a] ∧ ((SqL K H1 a xs ∧ R (Ite K a) H1) ∨ (SqT K H1 a xs ∧ R (IteT K a) H1))
theorem pi_enumA {X : Cx} {e : Expr} {ta : TA} {p pos tpos : Pos} {elts : List Expr} {kk : Nat} (hg : Gl X "enumerate") (hm : X.mg "enumerate" = none) (ha : PA X [e] ta) (hs : starEach [e] X.env = [(false, eval e X.env)] := by rfl) :
    PI X (.Tuple elts kk tpos) (.Call (.Name "enumerate" p) [e] [] pos) (iEnumA X.K ta) := by
  refine ⟨fun pins s σ H R I h => ?_⟩
  refine Call_ (ld_blt I hg hm boot_enumerate (PyProof.Rows.callWith_type1 (thn (ha.run pos pins s σ H _ I h) fun us s1 ⟨vs, H1, I1, r1, q1⟩ => ?_) hs rfl))
  obtain ⟨a, xs, ex, q⟩ := q1
  subst ex
  cases r1 with
  | cons r rr =>
    cases rr
    cases r
    have fr : ∀ b ∈ [s1.heap.objs.size + 1, s1.heap.objs.size], FpOk X pins H1 b := fun b hb => by
      have e' : b = s1.heap.objs.size + 1 ∨ b = s1.heap.objs.size := by simpa using hb
      have hle : s1.heap.objs.size ≤ b := by
        rcases e' with z | z
        · rw [z]; exact Nat.le_add_right _ _
        · rw [z]; exact Nat.le_refl _
      exact I1.fpOk hle (I1.hok.fresh hle)
    rcases q with ⟨hq, q⟩ | ⟨hq, q⟩
    · obtain ⟨its, rv, p', hz⟩ := I1.list hq
      refine call_enumerate_list p'.isList fun h' he hit hsz hk => wpAny_pyIter_enum he ?_
      have I2 : Inv X pins σ H1 { s1 with heap := h' } := I1.kept (t' := s1.toks) hk
      exact ⟨s1.heap.objs.size + 1, [s1.heap.objs.size + 1, s1.heap.objs.size], _, _, H1, rfl, I2, turn_enum a (s1.heap.objs.size + 1) s1.heap.objs.size, ⟨⟨.none, he⟩, hit, Nat.succ_ne_self _⟩, fr, q⟩
    · obtain ⟨its, rv, p', hz⟩ := I1.tuple hq
      obtain ⟨o1, ho1, _⟩ := id p'
      have hlt := Heap.lt_size ho1
      refine enum_begins1 (begins_tuple a its.toArray) p' fun h' he hit hsz hk => wpAny_pyIter_enum he ?_
      have I2 : Inv X pins σ H1 { s1 with heap := h' } := I1.kept (t' := s1.toks) hk
      exact ⟨s1.heap.objs.size + 1, [s1.heap.objs.size + 1, s1.heap.objs.size], _, _, H1, rfl, I2, turn_enumT a (s1.heap.objs.size + 1) s1.heap.objs.size (Nat.ne_of_lt hlt) (Nat.ne_of_gt (Nat.lt_succ_of_lt hlt)), ⟨⟨.none, he⟩, ⟨_, hit, rfl, rfl⟩, Nat.succ_ne_self _⟩, fr, q⟩
/-! ### the same over data -/
def enumD (ds : List D) : List D := (List.range ds.length).zipWith (fun (i : Nat) d => D.tup [.int i, d]) ds
def zipD (xs ys : List D) : List D := xs.zipWith (fun x y => D.tup [x, y]) ys
def seqD : D → Option (List D)
  | .tup ds => some ds
  | .lst ds => some ds
  | _ => none
def iEnumD (t : TEd) : TAd := fun env S Q E => t env S (fun d S1 => match seqD d with | some ds => Q (enumD ds) S1 | none => False) E
def iRevD (t : TEd) : TAd := fun env S Q E => t env S (fun d S1 => match seqD d with | some ds => Q ds.reverse S1 | none => False) E
def zipK (x y : D) (S : Sto) (Q : List D → Sto → Prop) : Prop := match x, y with
  | .tup xs, .tup ys => Q (zipD xs ys) S
  | .lst xs, .lst ys => Q (zipD xs ys) S
  | _, _ => False
def iZipD (t u : TEd) : TAd := fun env S Q E => t env S (fun x S1 => u env S1 (fun y S2 => zipK x y S2 Q) E) E
theorem moEnumD {t : TEd} (ht : MoE t) : MoE (iEnumD t) := fun env S Q Q' E E' h he q => ht _ _ _ _ _ _ (fun d S1 q1 => by
  split at q1 <;> first | exact h _ _ q1 | exact q1.elim) he q
theorem moRevD {t : TEd} (ht : MoE t) : MoE (iRevD t) := fun env S Q Q' E E' h he q => ht _ _ _ _ _ _ (fun d S1 q1 => by
  split at q1 <;> first | exact h _ _ q1 | exact q1.elim) he q
theorem moZipD {t u : TEd} (ht : MoE t) (hu : MoE u) : MoE (iZipD t u) := fun env S Q Q' E E' h he q => ht _ _ _ _ _ _ (fun x S1 q1 => hu _ _ _ _ _ _ (fun y S2 q2 => by
  unfold zipK at q2 ⊢
  split at q2 <;> first | exact h _ _ q2 | exact q2.elim) he q1) he q
theorem enumD_get {ds : List D} {i : Nat} {d : D} (e : ds[i]? = some d) : (enumD ds)[i]? = some (.tup [.int i, d]) := by
  have hi : i < ds.length := (List.getElem?_eq_some_iff.mp e).1
  unfold enumD
  rw [List.getElem?_zipWith, List.getElem?_range hi, e]
theorem enumD_len (ds : List D) : (enumD ds).length = ds.length := by unfold enumD; simp
theorem Rp.pair {K : Kz} {S : Sto} {H : Hp} {T : Addr} {x y : V} {dx dy : D} (rs : RS K S H) (hT : H T = none) (r1 : Rp K S H dx x) (r2 : Rp K S H dy y) : Aft K S H S (upd H T (.tup [x, y])) ∧ Rp K S (upd H T (.tup [x, y])) (.tup [dx, dy]) (.ref T) :=
  Rp.newT rs hT (.cons r1 (.cons r2 .nil))
theorem wk_enum_of {K : Kz} {S : Sto} {H : Hp} {J : It} {G : Hp → Prop} {ds : List D} {vs : List V} (rl : RpL K S H ds vs) (wk : Walk J vs.length G (YPair (fun i => some (.int (i : Nat))) (fun i => vs[i]?))) (hG : ∀ S' H', Step S H S' H' → G H') : WkD K S H J (enumD ds) := by
  refine ⟨G, YPair (fun i => some (.int (i : Nat))) (fun i => vs[i]?), by rw [enumD_len, rl.length]; exact wk, hG, fun K' i S' H' x H'' _ _ rs' tr hi y => ?_⟩
  obtain ⟨T, x', y', rfl, hT, rfl, e1, e2⟩ := y
  cases e1
  obtain ⟨d, e3, r3⟩ := rl.get' e2
  obtain ⟨a, r⟩ := Rp.pair rs' hT (.int (i : Nat)) (tr d y' r3)
  exact ⟨a, _, enumD_get e3, r⟩
section
variable {P : Program} {w : World} {K : PySem.W.Frag} {mg : Str → Option Value} {base : Heap} {N : List Str} {sc : Scope} {vw : Vw} {k : Nat} {X : Cx} {W : WX}
/-- one argument of a call -/
theorem la_one {te : TEd} (mo : MoE te) {σ : L2.St} {H : Hp} {Q : List V → Hp → Prop} (h : LE X.K W te σ H fun v H1 => Q [v] H1) : LA X.K W (aCons te aNil) σ H Q := by
  obtain ⟨Z, env, S, re, rs, q⟩ := h
  refine ⟨Z, env, S, re, rs, mo _ _ _ _ _ _ (fun d S1 q1 vs H1 a r => ?_) (fun x S1 q1 c dx H1 a r => q1 c dx H1 a r) q⟩
  obtain ⟨v, rfl, r1⟩ := r.one
  exact q1 v H1 a r1
theorem ji_enum {e : Expr} {te : TEd} {p pos tpos : Pos} {elts : List Expr} {kk : Nat} (c : JC P w K mg base N sc vw k X W) (hx : ("enumerate" : Str) ∈ vw.gs) (hm : mg "enumerate" = none) (he : JE X W e te) (hs : starEach [e] X.env = (false, eval e X.env) :: starEach [] X.env := by rfl) : JI X W (.Tuple elts kk tpos) (.Call (.Name "enumerate" p) [e] [] pos) (iEnumD te) := by
  have ja := ja_cons he (ja_nil (X := X) (W := W)) hs
  refine ⟨⟨fun pins s σ H R I h => (pi_enumA (c.gl hx) (by rw [c.gg]; exact hm) ja.pa hs).run pins s σ H R I (la_one he.mo ?_)⟩, moEnumD he.mo⟩
  obtain ⟨Z, env, S, re, rs, q⟩ := h
  refine LE.of he.mo re rs q (fun d S1 v H1 q1 a1 r1 => ?_) fun x S1 c dx H1 q1 a1 r1 => q1 c dx H1 a1 r1
  cases d <;> first | exact q1.elim | skip
  · obtain ⟨a, vs, rfl, hq, rl⟩ := r1.sqT
    exact ⟨a, vs, rfl, .inr ⟨hq, q1 _ H1 a1 (wk_enum_of rl walk_enumT fun S' H' st => st.sqT a1.rs hq)⟩⟩
  · cases r1 with
    | lst h1 h2 _ h4 => exact ⟨_, _, rfl, .inl ⟨.inl h1, q1 _ H1 a1 (wk_enum_of h4 walk_enum fun S' H' st => .inl (st.rdL h1 h2).1)⟩⟩
    | lstK h1 h4 => exact ⟨_, _, rfl, .inl ⟨SqL.ofK h1, q1 _ H1 a1 (wk_enum_of h4 walk_enum fun S' H' st => SqL.ofK h1)⟩⟩
end
end Bl

/-! {"..": x, ..}.get(k, y) -/
namespace Bl
open PySem PySem.Spec PyProof.Rows L2
section
variable {K : Kz} {S : Sto} {H : Hp} {p : Addr} {ks ls : List (Key × V)}
mutual
theorem Rp.dk (hp : H p = some (.dK ks)) : ∀ (d : D) (v : V), Rp K S H d v → Rp K S (upd H p (.dK ls)) d v
  | .non, _, h => by cases h; exact .non
  | .bl b, _, h => by cases h; exact .bl b
  | .int i, _, h => by cases h; exact .int i
  | .str x, _, h => by cases h; exact .str x
  | .tup ds, _, h => by
    cases h with
    | tup hs ha =>
      refine .tup ?_ (RpL.dk hp ds _ ha)
      rcases hs with (h | ⟨o, h⟩) | h
      · exact .inl (.inl (by rw [upd_ne (ne_of h hp (by intro z; cases z))]; exact h))
      · exact .inl (.inr ⟨o, by rw [upd_ne (ne_of h hp (by intro z; cases z))]; exact h⟩)
      · exact .inr h
  | .lst ds, _, h => by
    cases h with
    | lst hs hn hz ha =>
      refine .lst ?_ hn hz (RpL.dk hp ds _ ha)
      rcases hs with h | ⟨o, h⟩
      · exact .inl (by rw [upd_ne (ne_of h hp (by intro z; cases z))]; exact h)
      · exact .inr ⟨o, by rw [upd_ne (ne_of h hp (by intro z; cases z))]; exact h⟩
    | lstK hs ha => exact .lstK hs (RpL.dk hp ds _ ha)
  | .ref a, _, h => by cases h; exact .ref a
  | .obj a, _, h => by cases h; exact .obj a
theorem RpL.dk (hp : H p = some (.dK ks)) : ∀ (ds : List D) (vs : List V), RpL K S H ds vs → RpL K S (upd H p (.dK ls)) ds vs
  | [], _, h => by cases h; exact .nil
  | d :: ds, _, h => by
    cases h with
    | cons h1 h2 => exact .cons (Rp.dk hp d _ h1) (RpL.dk hp ds _ h2)
end
theorem RS.dk (hp : H p = some (.dK ks)) (rs : RS K S H) : RS K S (upd H p (.dK ls)) := by
  refine ⟨fun a ds e => ?_, fun b hb => ?_⟩
  · obtain ⟨vs, q, r⟩ := rs.at_ a ds e
    exact ⟨vs, by rw [upd_ne (ne_of q hp (by intro z; cases z))]; exact q, RpL.dk hp _ _ r⟩
  · obtain ⟨n, vs, q⟩ := rs.hid b hb
    exact ⟨n, vs, by rw [upd_ne (ne_of q hp (by intro z; cases z))]; exact q⟩
end
/-- a display with texts as keys: the values -/
def lookD : List Str → List D → Str → Option D
  | k :: ks, d :: ds, x => if x = k then some d else lookD ks ds x
  | _, _, _ => none
def dGetL (ks : List Str) (ta : TAd) (ty tx : TEd) : TEd := fun env S Q E => ta env S (fun ds S1 => ds.length = ks.length ∧ ty env S1 (fun y S2 => tx env S2 (fun z S3 => match y with
  | .str x => Q ((lookD ks ds x).getD z) S3
  | _ => False) E) E) E
theorem moGetL {ks : List Str} {ta : TAd} {ty tx : TEd} (h1 : MoE ta) (h2 : MoE ty) (h3 : MoE tx) : MoE (dGetL ks ta ty tx) := fun env S Q Q' E E' h he q => h1 _ _ _ _ _ _ (fun ds S1 q1 => ⟨q1.1, h2 _ _ _ _ _ _ (fun y S2 q2 => h3 _ _ _ _ _ _ (fun z S3 q3 => by
  cases y <;> first | exact h _ _ q3 | exact q3) he q2) he q1.2⟩) he q
/-- the pairs of a display: constant keys, values -/
structure PDs (X : Cx) (W : WX) (pos : Pos) (keys : List (Option Expr)) (values : List Expr) (ks : List Str) (ta : TAd) : Prop where
  pp : ∃ trs, PPs X pos keys values trs ∧ ∀ Z env S σ H (Q : List (V × V) → Hp → Prop), RE ⟨X.K, Z⟩ S H env σ → RS ⟨X.K, Z⟩ S H → ta env S (fun ds S' => ∀ vs H', Aft ⟨X.K, Z⟩ S H S' H' → RpL ⟨X.K, Z⟩ S' H' ds vs → vs.length = ks.length ∧ Q ((ks.zip vs).map fun q => (V.str q.1, q.2)) H') (PX ⟨X.K, Z⟩ S H σ W) → tPairs trs σ H Q
  mo : MoE ta
end Bl

namespace Lr.K06
open PySem PySem.Spec PyProof.Rows L2 Bl
def top (i : Nat) : Stmt := PySem.Challenge.pw_bendlands_k06_roots_in_one_row.main.body.getD i (.Pass ⟨0, 0, 0, 0⟩)
abbrev nm_common : List Str := ["one", "other"]
abbrev vw_common : Vw := ⟨[0, 1], [0, 1], [], ["abs"]⟩
theorem fs_common : FnScope nm_common ["one", "other"] (defScope (top 6)) := ⟨rfl, rfl, rfl, by decide +kernel, rfl, by decide +kernel, by decide +kernel⟩
theorem sc_common : Sc nm_common (defScope (top 6)) vw_common := scOf (by decide +kernel)
def d_common : He.DefD := ⟨("common", none), "common", "common", defArgs (top 6), defBody (top 6), defScope (top 6), [], []⟩
abbrev nm_frac : List Str := ["top", "bottom", "sign", "e", "by"]
abbrev vw_frac : Vw := ⟨[0, 1, 2, 3, 4], [0, 1, 2, 3, 4], [], ["abs", "ZeroDivisionError", "NoFraction", "common"]⟩
theorem fs_frac : FnScope nm_frac ["top", "bottom"] (defScope (top 7)) := ⟨rfl, rfl, rfl, by decide +kernel, rfl, by decide +kernel, by decide +kernel⟩
theorem sc_frac : Sc nm_frac (defScope (top 7)) vw_frac := scOf (by decide +kernel)
def d_frac : He.DefD := ⟨("frac", none), "frac", "frac", defArgs (top 7), defBody (top 7), defScope (top 7), [.int 1], []⟩
abbrev nm_times : List Str := ["one", "other"]
abbrev vw_times : Vw := ⟨[0, 1], [0, 1], [], ["frac"]⟩
theorem fs_times : FnScope nm_times ["one", "other"] (defScope (top 9)) := ⟨rfl, rfl, rfl, by decide +kernel, rfl, by decide +kernel, by decide +kernel⟩
theorem sc_times : Sc nm_times (defScope (top 9)) vw_times := scOf (by decide +kernel)
def d_times : He.DefD := ⟨("times", none), "times", "times", defArgs (top 9), defBody (top 9), defScope (top 9), [], []⟩
abbrev nm_sign_of : List Str := ["number"]
abbrev vw_sign_of : Vw := ⟨[0], [0], [], ["int"]⟩
theorem fs_sign_of : FnScope nm_sign_of ["number"] (defScope (top 10)) := ⟨rfl, rfl, rfl, by decide +kernel, rfl, by decide +kernel, by decide +kernel⟩
theorem sc_sign_of : Sc nm_sign_of (defScope (top 10)) vw_sign_of := scOf (by decide +kernel)
def d_sign_of : He.DefD := ⟨("sign_of", none), "sign_of", "sign_of", defArgs (top 10), defBody (top 10), defScope (top 10), [], []⟩
abbrev nm_plus : List Str := ["one", "other"]
abbrev vw_plus : Vw := ⟨[0, 1], [0, 1], [], ["frac"]⟩
theorem fs_plus : FnScope nm_plus ["one", "other"] (defScope (top 8)) := ⟨rfl, rfl, rfl, by decide +kernel, rfl, by decide +kernel, by decide +kernel⟩
theorem sc_plus : Sc nm_plus (defScope (top 8)) vw_plus := scOf (by decide +kernel)
def d_plus : He.DefD := ⟨("plus", none), "plus", "plus", defArgs (top 8), defBody (top 8), defScope (top 8), [], []⟩
abbrev nm_whole_root : List Str := ["number", "found"]
abbrev vw_whole_root : Vw := ⟨[0, 1], [0, 1], [], []⟩
theorem fs_whole_root : FnScope nm_whole_root ["number"] (defScope (top 11)) := ⟨rfl, rfl, rfl, by decide +kernel, rfl, by decide +kernel, by decide +kernel⟩
theorem sc_whole_root : Sc nm_whole_root (defScope (top 11)) vw_whole_root := scOf (by decide +kernel)
def d_whole_root : He.DefD := ⟨("whole_root", none), "whole_root", "whole_root", defArgs (top 11), defBody (top 11), defScope (top 11), [], []⟩
abbrev nm_is_square : List Str := ["number"]
abbrev vw_is_square : Vw := ⟨[0], [0], [], ["whole_root"]⟩
theorem fs_is_square : FnScope nm_is_square ["number"] (defScope (top 12)) := ⟨rfl, rfl, rfl, by decide +kernel, rfl, by decide +kernel, by decide +kernel⟩
theorem sc_is_square : Sc nm_is_square (defScope (top 12)) vw_is_square := scOf (by decide +kernel)
def d_is_square : He.DefD := ⟨("is_square", none), "is_square", "is_square", defArgs (top 12), defBody (top 12), defScope (top 12), [], []⟩
abbrev nm_root : List Str := ["base", "sign", "square"]
abbrev vw_root : Vw := ⟨[0, 1, 2], [0, 1, 2], [], ["NoRoot", "ZERO", "is_square", "plus", "whole_root"]⟩
theorem fs_root : FnScope nm_root ["base", "sign", "square"] (defScope (top 14)) := ⟨rfl, rfl, rfl, by decide +kernel, rfl, by decide +kernel, by decide +kernel⟩
theorem sc_root : Sc nm_root (defScope (top 14)) vw_root := scOf (by decide +kernel)
def d_root : He.DefD := ⟨("root", none), "root", "root", defArgs (top 14), defBody (top 14), defScope (top 14), [], []⟩
abbrev nm_scaled : List Str := ["one", "by", "base", "sign", "square"]
abbrev vw_scaled : Vw := ⟨[0, 1, 2, 3, 4], [0, 1, 2, 3, 4], [], ["root", "times", "sign_of"]⟩
theorem fs_scaled : FnScope nm_scaled ["one", "by"] (defScope (top 17)) := ⟨rfl, rfl, rfl, by decide +kernel, rfl, by decide +kernel, by decide +kernel⟩
theorem sc_scaled : Sc nm_scaled (defScope (top 17)) vw_scaled := scOf (by decide +kernel)
def d_scaled : He.DefD := ⟨("scaled", none), "scaled", "scaled", defArgs (top 17), defBody (top 17), defScope (top 17), [], []⟩
abbrev nm_moved : List Str := ["one", "by", "base", "sign", "square"]
abbrev vw_moved : Vw := ⟨[0, 1, 2, 3, 4], [0, 1, 2, 3, 4], [], ["plus"]⟩
theorem fs_moved : FnScope nm_moved ["one", "by"] (defScope (top 18)) := ⟨rfl, rfl, rfl, by decide +kernel, rfl, by decide +kernel, by decide +kernel⟩
theorem sc_moved : Sc nm_moved (defScope (top 18)) vw_moved := scOf (by decide +kernel)
def d_moved : He.DefD := ⟨("moved", none), "moved", "moved", defArgs (top 18), defBody (top 18), defScope (top 18), [], []⟩
abbrev nm_field_sign : List Str := ["top", "beside", "h"]
abbrev vw_field_sign : Vw := ⟨[0, 1, 2], [0, 1, 2], [], ["sign_of"]⟩
theorem fs_field_sign : FnScope nm_field_sign ["top", "beside", "h"] (defScope (top 15)) := ⟨rfl, rfl, rfl, by decide +kernel, rfl, by decide +kernel, by decide +kernel⟩
theorem sc_field_sign : Sc nm_field_sign (defScope (top 15)) vw_field_sign := scOf (by decide +kernel)
def d_field_sign : He.DefD := ⟨("field_sign", none), "field_sign", "field_sign", defArgs (top 15), defBody (top 15), defScope (top 15), [], []⟩
abbrev nm_root_sign : List Str := ["one", "base", "sign", "square", "scale"]
abbrev vw_root_sign : Vw := ⟨[0, 1, 2, 3, 4], [0, 1, 2, 3, 4], [], ["field_sign"]⟩
theorem fs_root_sign : FnScope nm_root_sign ["one"] (defScope (top 16)) := ⟨rfl, rfl, rfl, by decide +kernel, rfl, by decide +kernel, by decide +kernel⟩
theorem sc_root_sign : Sc nm_root_sign (defScope (top 16)) vw_root_sign := scOf (by decide +kernel)
def d_root_sign : He.DefD := ⟨("root_sign", none), "root_sign", "root_sign", defArgs (top 16), defBody (top 16), defScope (top 16), [], []⟩
abbrev nm_squared_less : List Str := ["one", "square", "base", "sign", "own", "rest", "twice"]
abbrev vw_squared_less : Vw := ⟨[0, 1, 2, 3, 4, 5, 6], [0, 1, 2, 3, 4, 5, 6], [], ["plus", "times", "root", "sign_of"]⟩
theorem fs_squared_less : FnScope nm_squared_less ["one", "square"] (defScope (top 19)) := ⟨rfl, rfl, rfl, by decide +kernel, rfl, by decide +kernel, by decide +kernel⟩
theorem sc_squared_less : Sc nm_squared_less (defScope (top 19)) vw_squared_less := scOf (by decide +kernel)
def d_squared_less : He.DefD := ⟨("squared_less", none), "squared_less", "squared_less", defArgs (top 19), defBody (top 19), defScope (top 19), [], []⟩
abbrev nm_compare : List Str := ["one", "other", "base", "sign", "square", "near", "here"]
abbrev vw_compare : Vw := ⟨[0, 1, 2, 3, 4, 5, 6], [0, 1, 2, 3, 4, 5, 6], [], ["moved", "root_sign", "squared_less"]⟩
theorem fs_compare : FnScope nm_compare ["one", "other"] (defScope (top 20)) := ⟨rfl, rfl, rfl, by decide +kernel, rfl, by decide +kernel, by decide +kernel⟩
theorem sc_compare : Sc nm_compare (defScope (top 20)) vw_compare := scOf (by decide +kernel)
def d_compare : He.DefD := ⟨("compare", none), "compare", "compare", defArgs (top 20), defBody (top 20), defScope (top 20), [], []⟩
abbrev nm_floor_of : List Str := ["one", "base", "sign", "square", "found"]
abbrev vw_floor_of : Vw := ⟨[0, 1, 2, 3, 4], [0, 1, 2, 3, 4], [], ["whole_root", "compare", "ZERO"]⟩
theorem fs_floor_of : FnScope nm_floor_of ["one"] (defScope (top 21)) := ⟨rfl, rfl, rfl, by decide +kernel, rfl, by decide +kernel, by decide +kernel⟩
theorem sc_floor_of : Sc nm_floor_of (defScope (top 21)) vw_floor_of := scOf (by decide +kernel)
def d_floor_of : He.DefD := ⟨("floor_of", none), "floor_of", "floor_of", defArgs (top 21), defBody (top 21), defScope (top 21), [], []⟩
abbrev nm_between : List Str := ["one", "other", "low", "high", "under", "top"]
abbrev vw_between : Vw := ⟨[0, 1, 2, 3, 4, 5], [0, 1, 2, 3, 4, 5], [], ["compare", "floor_of", "scaled", "ZERO", "frac"]⟩
theorem fs_between : FnScope nm_between ["one", "other"] (defScope (top 22)) := ⟨rfl, rfl, rfl, by decide +kernel, rfl, by decide +kernel, by decide +kernel⟩
theorem sc_between : Sc nm_between (defScope (top 22)) vw_between := scOf (by decide +kernel)
def d_between : He.DefD := ⟨("between", none), "between", "between", defArgs (top 22), defBody (top 22), defScope (top 22), [], []⟩
abbrev nm_l_cell_at : List Str := ["_law_script", "_law_k"]
abbrev vw_l_cell_at : Vw := ⟨[0, 1], [0, 1], [], ["len"]⟩
theorem fs_l_cell_at : FnScope nm_l_cell_at ["_law_script", "_law_k"] (defScope (top 24)) := ⟨rfl, rfl, rfl, by decide +kernel, rfl, by decide +kernel, by decide +kernel⟩
theorem sc_l_cell_at : Sc nm_l_cell_at (defScope (top 24)) vw_l_cell_at := scOf (by decide +kernel)
def d_l_cell_at : He.DefD := ⟨("_law_cell_at", none), "_law_cell_at", "_law_cell_at", defArgs (top 24), defBody (top 24), defScope (top 24), [], []⟩
abbrev nm_l_bag : List Str := ["_law_script", "_law_at", "_law_primes", "_law_cell", "_law_mix", "_law_k", "_law_one"]
abbrev vw_l_bag : Vw := ⟨[0, 1, 2, 3, 4, 5, 6], [0, 1, 2, 3, 4, 5, 6], [], ["_law_cell_at", "range"]⟩
theorem fs_l_bag : FnScope nm_l_bag ["_law_script", "_law_at"] (defScope (top 25)) := ⟨rfl, rfl, rfl, by decide +kernel, rfl, by decide +kernel, by decide +kernel⟩
theorem sc_l_bag : Sc nm_l_bag (defScope (top 25)) vw_l_bag := scOf (by decide +kernel)
def d_l_bag : He.DefD := ⟨("_law_bag", none), "_law_bag", "_law_bag", defArgs (top 25), defBody (top 25), defScope (top 25), [], []⟩
abbrev nm_l_take : List Str := ["_law_bag_here", "_law_many", "_law_digit"]
abbrev vw_l_take : Vw := ⟨[0, 1, 2], [0, 1, 2], [], []⟩
theorem fs_l_take : FnScope nm_l_take ["_law_bag_here", "_law_many"] (defScope (top 26)) := ⟨rfl, rfl, rfl, by decide +kernel, rfl, by decide +kernel, by decide +kernel⟩
theorem sc_l_take : Sc nm_l_take (defScope (top 26)) vw_l_take := scOf (by decide +kernel)
def d_l_take : He.DefD := ⟨("_law_take", none), "_law_take", "_law_take", defArgs (top 26), defBody (top 26), defScope (top 26), [], []⟩
abbrev nm_l_low : List Str := ["_law_one", "_law_other", "_law_least", "_law_by"]
abbrev vw_l_low : Vw := ⟨[0, 1, 2, 3], [0, 1, 2, 3], [], ["abs"]⟩
theorem fs_l_low : FnScope nm_l_low ["_law_one", "_law_other"] (defScope (top 27)) := ⟨rfl, rfl, rfl, by decide +kernel, rfl, by decide +kernel, by decide +kernel⟩
theorem sc_l_low : Sc nm_l_low (defScope (top 27)) vw_l_low := scOf (by decide +kernel)
def d_l_low : He.DefD := ⟨("_law_low", none), "_law_low", "_law_low", defArgs (top 27), defBody (top 27), defScope (top 27), [], []⟩
abbrev nm_l_number : List Str := ["_law_bag_here", "_law_most", "_law_top"]
abbrev vw_l_number : Vw := ⟨[0, 1, 2], [0, 1, 2], [], ["_law_take", "_law_low"]⟩
theorem fs_l_number : FnScope nm_l_number ["_law_bag_here"] (defScope (top 31)) := ⟨rfl, rfl, rfl, by decide +kernel, rfl, by decide +kernel, by decide +kernel⟩
theorem sc_l_number : Sc nm_l_number (defScope (top 31)) vw_l_number := scOf (by decide +kernel)
def d_l_number : He.DefD := ⟨("_law_number", none), "_law_number", "_law_number", defArgs (top 31), defBody (top 31), defScope (top 31), [], []⟩
abbrev nm_l_square : List Str := ["_law_bag_here", "_law_top", "_law_bottom"]
abbrev vw_l_square : Vw := ⟨[0, 1, 2], [0, 1, 2], [], ["_law_number", "_law_take", "_law_low", "abs"]⟩
theorem fs_l_square : FnScope nm_l_square ["_law_bag_here"] (defScope (top 32)) := ⟨rfl, rfl, rfl, by decide +kernel, rfl, by decide +kernel, by decide +kernel⟩
theorem sc_l_square : Sc nm_l_square (defScope (top 32)) vw_l_square := scOf (by decide +kernel)
def d_l_square : He.DefD := ⟨("_law_square", none), "_law_square", "_law_square", defArgs (top 32), defBody (top 32), defScope (top 32), [], []⟩
abbrev nm_l_plus : List Str := ["_law_one", "_law_other"]
abbrev vw_l_plus : Vw := ⟨[0, 1], [0, 1], [], ["_law_low"]⟩
theorem fs_l_plus : FnScope nm_l_plus ["_law_one", "_law_other"] (defScope (top 28)) := ⟨rfl, rfl, rfl, by decide +kernel, rfl, by decide +kernel, by decide +kernel⟩
theorem sc_l_plus : Sc nm_l_plus (defScope (top 28)) vw_l_plus := scOf (by decide +kernel)
def d_l_plus : He.DefD := ⟨("_law_plus", none), "_law_plus", "_law_plus", defArgs (top 28), defBody (top 28), defScope (top 28), [], []⟩
abbrev nm_l_root_of : List Str := ["_law_number_here", "_law_low_here", "_law_high", "_law_mid"]
abbrev vw_l_root_of : Vw := ⟨[0, 1, 2, 3], [0, 1, 2, 3], [], []⟩
theorem fs_l_root_of : FnScope nm_l_root_of ["_law_number_here"] (defScope (top 33)) := ⟨rfl, rfl, rfl, by decide +kernel, rfl, by decide +kernel, by decide +kernel⟩
theorem sc_l_root_of : Sc nm_l_root_of (defScope (top 33)) vw_l_root_of := scOf (by decide +kernel)
def d_l_root_of : He.DefD := ⟨("_law_root_of", none), "_law_root_of", "_law_root_of", defArgs (top 33), defBody (top 33), defScope (top 33), [], []⟩
abbrev nm_l_canonical : List Str := ["_law_base", "_law_hand", "_law_inner", "_law_top", "_law_bottom"]
abbrev vw_l_canonical : Vw := ⟨[0, 1, 2, 3, 4], [0, 1, 2, 3, 4], [], ["_law_root_of", "_law_plus"]⟩
theorem fs_l_canonical : FnScope nm_l_canonical ["_law_base", "_law_hand", "_law_inner"] (defScope (top 34)) := ⟨rfl, rfl, rfl, by decide +kernel, rfl, by decide +kernel, by decide +kernel⟩
theorem sc_l_canonical : Sc nm_l_canonical (defScope (top 34)) vw_l_canonical := scOf (by decide +kernel)
def d_l_canonical : He.DefD := ⟨("_law_canonical", none), "_law_canonical", "_law_canonical", defArgs (top 34), defBody (top 34), defScope (top 34), [], []⟩
abbrev nm_l_bounds : List Str := ["_law_one", "_law_by", "_law_top", "_law_bottom", "_law_hand", "_law_more", "_law_under", "_law_low_here", "_law_ends"]
abbrev vw_l_bounds : Vw := ⟨[0, 1, 2, 3, 4, 5, 6, 7, 8], [0, 1, 2, 3, 4, 5, 6, 7, 8], [], ["_law_root_of", "sorted"]⟩
theorem fs_l_bounds : FnScope nm_l_bounds ["_law_one", "_law_by"] (defScope (top 35)) := ⟨rfl, rfl, rfl, by decide +kernel, rfl, by decide +kernel, by decide +kernel⟩
theorem sc_l_bounds : Sc nm_l_bounds (defScope (top 35)) vw_l_bounds := scOf (by decide +kernel)
def d_l_bounds : He.DefD := ⟨("_law_bounds", none), "_law_bounds", "_law_bounds", defArgs (top 35), defBody (top 35), defScope (top 35), [], []⟩
abbrev nm_l_tens : List Str := ["_law_many", "_law_found", "_law_turn"]
abbrev vw_l_tens : Vw := ⟨[0, 1, 2], [0, 1, 2], [], ["range"]⟩
theorem fs_l_tens : FnScope nm_l_tens ["_law_many"] (defScope (top 37)) := ⟨rfl, rfl, rfl, by decide +kernel, rfl, by decide +kernel, by decide +kernel⟩
theorem sc_l_tens : Sc nm_l_tens (defScope (top 37)) vw_l_tens := scOf (by decide +kernel)
def d_l_tens : He.DefD := ⟨("_law_tens", none), "_law_tens", "_law_tens", defArgs (top 37), defBody (top 37), defScope (top 37), [], []⟩
abbrev nm_l_rows_right : List Str := ["_law_some", "_law_k", "_law_one", "_law_other", "_law_here"]
abbrev vw_l_rows_right : Vw := ⟨[0, 1, 2, 3, 4], [0, 1, 2, 3, 4], [], ["enumerate", "compare", "floor_of"]⟩
theorem fs_l_rows_right : FnScope nm_l_rows_right ["_law_some"] (defScope (top 38)) := ⟨rfl, rfl, rfl, by decide +kernel, rfl, by decide +kernel, by decide +kernel⟩
theorem sc_l_rows_right : Sc nm_l_rows_right (defScope (top 38)) vw_l_rows_right := scOf (by decide +kernel)
def d_l_rows_right : He.DefD := ⟨("_law_rows_right", none), "_law_rows_right", "_law_rows_right", defArgs (top 38), defBody (top 38), defScope (top 38), [], []⟩
abbrev nm_law : List Str := ["_law_script", "_law_k", "_law_bag_here", "_law_found", "_law_turn", "_law_one", "_law_by", "_law_place", "_law_up", "_law_rows", "_law_at", "_law_here", ".0", "_law_other", "_law_row"]
abbrev vw_law : Vw := ⟨[0, 1, 2, 3, 4, 5, 6, 7, 8, 9, 10, 11], [0, 1, 2, 3, 4, 7, 9, 10], [5, 6, 8, 11], ["range", "min", "len", "_law_bag", "_law_canonical", "_law_number", "_law_take", "_law_square", "_law_tens", "_law_low", "_law_bounds", "abs", "all", "between"]⟩
abbrev vb0_law : Vw := ⟨[5, 12, 13], [12, 13], [5], ["compare"]⟩
abbrev vb1_law : Vw := ⟨[5, 6, 12], [5, 12], [6], ["moved"]⟩
abbrev vb2_law : Vw := ⟨[5, 8, 12], [5, 12], [8], ["scaled"]⟩
abbrev vb3_law : Vw := ⟨[5, 8, 12], [5, 12], [8], ["scaled"]⟩
abbrev vb4_law : Vw := ⟨[12, 14], [12, 14], [], ["_law_rows_right"]⟩
abbrev vb5_law : Vw := ⟨[5, 11, 12], [5, 12], [11], ["compare"]⟩
abbrev vb6_law : Vw := ⟨[5, 11, 12], [5, 12], [11], ["compare"]⟩
theorem fs_law : FnScope nm_law ["_law_script"] (defScope (top 39)) := ⟨rfl, rfl, rfl, by decide +kernel, rfl, by decide +kernel, by decide +kernel⟩
theorem sc_law : Sc nm_law (defScope (top 39)) vw_law := scOf (by decide +kernel)
def d_law : He.DefD := ⟨("law", none), "law", "law", defArgs (top 39), defBody (top 39), defScope (top 39), [], []⟩
def fn : List He.DefD := [d_common, d_frac, d_times, d_sign_of, d_plus, d_whole_root, d_is_square, d_root, d_scaled, d_moved, d_field_sign, d_root_sign, d_squared_less, d_compare, d_floor_of, d_between, d_l_cell_at, d_l_bag, d_l_take, d_l_low, d_l_number, d_l_square, d_l_plus, d_l_root_of, d_l_canonical, d_l_bounds, d_l_tens, d_l_rows_right, d_law]
def fa : List He.Fa := [.free "range", .free "min", .free "len", .glo "_law_bag", .glo "_law_number", .glo "_law_take", .glo "_law_square", .glo "_law_canonical", .glo "_law_tens", .glo "_law_bounds", .glo "_law_low", .glo "compare", .free "abs", .glo "moved", .glo "scaled", .free "all", .glo "_law_rows_right", .glo "between", .glo "times", .glo "root", .glo "sign_of", .glo "frac", .glo "common", .free "int", .glo "NoRoot", .exc "NoRoot", .glo "ZERO", .glo "is_square", .glo "whole_root", .glo "plus", .glo "root_sign", .glo "squared_less", .glo "field_sign", .glo "floor_of", .glo "_law_cell_at", .glo "_law_root_of", .glo "_law_plus", .free "sorted", .free "enumerate", .glo "law"]
def bxl : List (PySem.W.Frag → Bool) := [fun K => tupI K "ZERO" [0, 1]]
def bx : PySem.W.Frag → Bool := fun K => bxl.all fun f => f K
def names0 : List PySem.Str := ["LandError", "NoRoot", "NoFraction", "ZERO", "common", "frac", "plus", "times", "sign_of", "whole_root", "is_square", "root", "field_sign", "root_sign", "scaled", "moved", "squared_less", "compare", "floor_of", "between", "_law_cell_at", "_law_bag", "_law_take", "_law_low"]
def names1 : List PySem.Str := ["_law_plus", "_law_minus", "_law_times", "_law_number", "_law_square", "_law_root_of", "_law_canonical", "_law_bounds", "_law_before", "_law_tens", "_law_rows_right"]
def names : List PySem.Str := names0 ++ names1
abbrev R : PySem.W.OpenRow := PySem.W.OpenLaw.row PySem.Challenge.rw_bendlands_k06_roots_in_one_row
abbrev hk : PySem.W.Hook := hookX 5 fa fn bx
theorem run (w : World) : HandSHeadRun.RunEq R (PySem.W.view R.prog [39]) hk (obX 5 fa fn bx) 6000 names w := by
  intro os
  kernel_rfl
end Lr.K06

namespace Lb
open PySem PySem.Spec PyProof.Rows L2 Bl
def k_ZERO : D := .tup ([0, 1].map D.int)
def g_root_sign_square {α : Type} (us ws : List α) : List α := match us, ws with
  | [a0], [b_sign, b_square] => [a0, b_sign, b_square]
  | _, _ => us ++ ws
def t_common : TSd := sSeq (sPar [0, 1] (aCons (dB bAbs (aCons (vr 0) (aNil))) (aCons (dB bAbs (aCons (vr 1) (aNil))) (aNil)))) (sSeq (sWhile (tbl (dTwo (vr 1) (cn (.int 0)) fNe)) (sPar [0, 1] (aCons (vr 1) (aCons (dTwo (vr 0) (vr 1) fMod) (aNil))))) (sRet (vr 0)))
def m_common : TFd := fnD 2 2 t_common
def t_frac : TSd := sSeq (sThru (sAsg (dTwo (vr 1) (dB bAbs (aCons (vr 1) (aNil))) fDiv) (.nm 2)) sNx) (sSeq (sAsg (dTwo (dCall m_common 2 0 (fun ds _ => ds) (aCons (vr 0) (aCons (vr 1) (aNil))) aNil) (vr 2) fMul) (.nm 4)) (sRet (dTup (aCons (dTwo (vr 0) (vr 4) fDiv) (aCons (dTwo (vr 1) (vr 4) fDiv) (aNil))))))
def m_frac : TFd := fnD 2 5 t_frac
def t_plus : TSd := sRet (dCall m_frac 2 0 (fun ds _ => ds ++ []) (aCons (dTwo (dTwo (dTwo (vr 0) (cn (.int 0)) fIx) (dTwo (vr 1) (cn (.int 1)) fIx) fMul) (dTwo (dTwo (vr 1) (cn (.int 0)) fIx) (dTwo (vr 0) (cn (.int 1)) fIx) fMul) fAdd) (aCons (dTwo (dTwo (vr 0) (cn (.int 1)) fIx) (dTwo (vr 1) (cn (.int 1)) fIx) fMul) (aNil))) aNil)
def m_plus : TFd := fnD 2 2 t_plus
theorem e_plus {a0 a1 : D} {S : Sto} {Q : DK} {E : EK} (k : t_plus [some a0, some a1] S ⟨fun _ S1 => Q .non S1, Q, fun _ _ => False, fun _ _ => False, fun x _ S1 => E x S1⟩) : m_plus [a0, a1] S Q E := ⟨rfl, k⟩
def t_whole_root : TSd := sSeq (sIf (tbl (dTwo (vr 0) (cn (.int 0)) fEq)) (sRet (cn (.int 0))) (sNx)) (sSeq (sAsg (dTwo (cn (.int 1)) (dTwo (dTwo (dBits (vr 0)) (cn (.int 1)) fAdd) (cn (.int 2)) fDiv) fShl) (.nm 1)) (sSeq (sWhile (tbl (dTwo (dTwo (vr 1) (vr 1) fMul) (vr 0) fGt)) (sAsg (dTwo (dTwo (vr 1) (dTwo (vr 0) (vr 1) fDiv) fAdd) (cn (.int 2)) fDiv) (.nm 1))) (sRet (vr 1))))
def m_whole_root : TFd := fnD 1 2 t_whole_root
def t_is_square : TSd := sRet (dTwo (dTwo (dCall m_whole_root 1 0 (fun ds _ => ds) (aCons (vr 0) (aNil)) aNil) (cn (.int 2)) fPow) (vr 0) fEq)
def m_is_square : TFd := fnD 1 1 t_is_square
def t_root : TSd := sSeq (sIf (tbl (dTwo (dTwo (vr 2) (cn (.int 0)) fIx) (cn (.int 0)) fLt)) (sRaise "NoRoot") (sNx)) (sSeq (sIf (tOrD (tbl (dTwo (vr 1) (cn (.int 0)) fEq)) (tbl (dTwo (dTwo (vr 2) (cn (.int 0)) fIx) (cn (.int 0)) fEq))) (sRet (dTup (aCons (vr 0) (aCons (cn (.int 0)) (aCons (cn k_ZERO) (aNil)))))) (sNx)) (sSeq (sIf (tAndD (ttr (dCall m_is_square 1 0 (fun ds _ => ds) (aCons (dTwo (vr 2) (cn (.int 0)) fIx) (aNil)) aNil)) (ttr (dCall m_is_square 1 0 (fun ds _ => ds) (aCons (dTwo (vr 2) (cn (.int 1)) fIx) (aNil)) aNil))) (sRet (dTup (aCons (dCall m_plus 2 0 (fun ds _ => ds) (aCons (vr 0) (aCons (dTup (aCons (dTwo (vr 1) (dCall m_whole_root 1 0 (fun ds _ => ds) (aCons (dTwo (vr 2) (cn (.int 0)) fIx) (aNil)) aNil) fMul) (aCons (dCall m_whole_root 1 0 (fun ds _ => ds) (aCons (dTwo (vr 2) (cn (.int 1)) fIx) (aNil)) aNil) (aNil)))) (aNil))) aNil) (aCons (cn (.int 0)) (aCons (cn k_ZERO) (aNil)))))) (sNx)) (sRet (dTup (aCons (vr 0) (aCons (vr 1) (aCons (vr 2) (aNil))))))))
def m_root : TFd := fnD 3 3 t_root
def t_l_cell_at : TSd := sSeq (sIf (tbl (dTwo (vr 1) (dB bLen (aCons (vr 0) (aNil))) fLt)) (sRet (dTwo (vr 0) (vr 1) fIx)) (sNx)) (sRet (cn (.int 0)))
def m_l_cell_at : TFd := fnD 2 2 t_l_cell_at
def t_l_bag : TSd := sSeq (sAsg (dTup (aCons (cn (.int 99991)) (aCons (cn (.int 99971)) (aCons (cn (.int 99961)) (aCons (cn (.int 99929)) (aCons (cn (.int 99923)) (aCons (cn (.int 99907)) (aCons (cn (.int 99901)) (aCons (cn (.int 99881)) (aCons (cn (.int 99877)) (aNil))))))))))) (.nm 2)) (sSeq (sAsg (dCall m_l_cell_at 2 0 (fun ds _ => ds) (aCons (vr 0) (aCons (vr 1) (aNil))) aNil) (.nm 3)) (sSeq (sAsg (dTwo (dTwo (cn (.int 7919)) (vr 1) fMul) (cn (.int 29)) fAdd) (.nm 4)) (sSeq (sFor (iR1 (aCons (cn (.int 9)) (aNil))) (.nm 5) (sSeq (sAsg (dTwo (dTwo (dTwo (dCall m_l_cell_at 2 0 (fun ds _ => ds) (aCons (vr 0) (aCons (dTwo (vr 1) (vr 5) fAdd) (aNil))) aNil) (dTwo (cn (.int 10)) (cn (.int 18)) fPow) fMod) (dTwo (cn (.int 11)) (vr 5) fMul) fAdd) (cn (.int 1)) fAdd) (.nm 6)) (sAsg (dTwo (dTwo (dTwo (vr 4) (cn (.int 48271)) fMul) (dTwo (dTwo (vr 6) (cn (.int 3)) fPow) (dTwo (vr 2) (vr 5) fIx) fMod) fAdd) (cn (.int 2147483629)) fMod) (.nm 4)))) (sSeq (sIf (tbl (dTwo (vr 3) (dTwo (cn (.int 10)) (cn (.int 18)) fPow) fLt)) (sAsg (cn (.int 0)) (.nm 3)) (sNx)) (sRet (dLstR (aCons (vr 3) (aCons (dTwo (vr 4) (cn (.int 1)) fAdd) (aNil)))))))))
def m_l_bag : TFd := fnD 2 7 t_l_bag
def t_l_take : TSd := sSeq (sIf (tbl (dTwo (dTwo (vr 0) (cn (.int 0)) fIx) (cn (.int 0)) fGt)) (sSeq (sAsg (dTwo (dTwo (vr 0) (cn (.int 0)) fIx) (vr 1) fMod) (.nm 2)) (sSeq (sSub (dTwo (dTwo (vr 0) (cn (.int 0)) fIx) (vr 1) fDiv) (vr 0) (cn (.int 0))) (sRet (vr 2)))) (sNx)) (sSeq (sSub (dTwo (dTwo (dTwo (vr 0) (cn (.int 1)) fIx) (cn (.int 48271)) fMul) (cn (.int 2147483647)) fMod) (vr 0) (cn (.int 1))) (sRet (dTwo (dTwo (dTwo (dTwo (dTwo (vr 0) (cn (.int 1)) fIx) (cn (.int 3)) fPow) (cn (.int 2147483629)) fMod) (cn (.int 1000003)) fMod) (vr 1) fMod)))
def m_l_take : TFd := fnD 2 3 t_l_take
def t_l_low : TSd := sSeq (sIf (tbl (dTwo (vr 1) (cn (.int 0)) fLt)) (sPar [0, 1] (aCons (dTwo (cn (.int 0)) (vr 0) fSub) (aCons (dTwo (cn (.int 0)) (vr 1) fSub) (aNil)))) (sNx)) (sSeq (sPar [2, 3] (aCons (dB bAbs (aCons (vr 0) (aNil))) (aCons (vr 1) (aNil)))) (sSeq (sWhile (tbl (dTwo (vr 2) (cn (.int 0)) fGt)) (sPar [2, 3] (aCons (dTwo (vr 3) (vr 2) fMod) (aCons (vr 2) (aNil))))) (sRet (dTup (aCons (dTwo (vr 0) (vr 3) fDiv) (aCons (dTwo (vr 1) (vr 3) fDiv) (aNil)))))))
def m_l_low : TFd := fnD 2 4 t_l_low
def t_l_number : TSd := sSeq (sAsg (dTwo (dLst (aCons (cn (.int 2)) (aCons (cn (.int 6)) (aCons (cn (.int 1000)) (aCons (dTwo (cn (.int 10)) (cn (.int 12)) fPow) (aNil)))))) (dCall m_l_take 2 0 (fun ds _ => ds) (aCons (vr 0) (aCons (cn (.int 4)) (aNil))) aNil) fIx) (.nm 1)) (sSeq (sAsg (dTwo (dCall m_l_take 2 0 (fun ds _ => ds) (aCons (vr 0) (aCons (vr 1) (aNil))) aNil) (dTwo (cn (.int 1)) (dTwo (cn (.int 2)) (dCall m_l_take 2 0 (fun ds _ => ds) (aCons (vr 0) (aCons (cn (.int 2)) (aNil))) aNil) fMul) fSub) fMul) (.nm 2)) (sRet (dCall m_l_low 2 0 (fun ds _ => ds) (aCons (vr 2) (aCons (dTwo (dLst (aCons (cn (.int 1)) (aCons (dTwo (cn (.int 1)) (dCall m_l_take 2 0 (fun ds _ => ds) (aCons (vr 0) (aCons (vr 1) (aNil))) aNil) fAdd) (aNil)))) (dCall m_l_take 2 0 (fun ds _ => ds) (aCons (vr 0) (aCons (cn (.int 2)) (aNil))) aNil) fIx) (aNil))) aNil)))
def m_l_number : TFd := fnD 1 3 t_l_number
def t_l_square : TSd := sSeq (sAsg (dCall m_l_number 1 0 (fun ds _ => ds) (aCons (vr 0) (aNil)) aNil) (.tp (.nm 1 :: .nm 2 :: []))) (sSeq (sIf (tbl (dTwo (dCall m_l_take 2 0 (fun ds _ => ds) (aCons (vr 0) (aCons (cn (.int 3)) (aNil))) aNil) (cn (.int 0)) fEq)) (sRet (dCall m_l_low 2 0 (fun ds _ => ds) (aCons (dTwo (vr 1) (vr 1) fMul) (aCons (dTwo (vr 2) (vr 2) fMul) (aNil))) aNil)) (sNx)) (sRet (dTup (aCons (dB bAbs (aCons (vr 1) (aNil))) (aCons (vr 2) (aNil))))))
def m_l_square : TFd := fnD 1 3 t_l_square
def t_l_plus : TSd := sRet (dCall m_l_low 2 0 (fun ds _ => ds) (aCons (dTwo (dTwo (dTwo (vr 0) (cn (.int 0)) fIx) (dTwo (vr 1) (cn (.int 1)) fIx) fMul) (dTwo (dTwo (vr 1) (cn (.int 0)) fIx) (dTwo (vr 0) (cn (.int 1)) fIx) fMul) fAdd) (aCons (dTwo (dTwo (vr 0) (cn (.int 1)) fIx) (dTwo (vr 1) (cn (.int 1)) fIx) fMul) (aNil))) aNil)
def m_l_plus : TFd := fnD 2 2 t_l_plus
def t_l_root_of : TSd := sSeq (sPar [1, 2] (aCons (cn (.int 0)) (aCons (dTwo (vr 0) (cn (.int 1)) fAdd) (aNil)))) (sSeq (sWhile (tbl (dTwo (dTwo (vr 2) (vr 1) fSub) (cn (.int 1)) fGt)) (sSeq (sAsg (dTwo (dTwo (vr 1) (vr 2) fAdd) (cn (.int 2)) fDiv) (.nm 3)) (sIf (tbl (dTwo (dTwo (vr 3) (vr 3) fMul) (vr 0) fLe)) (sAsg (vr 3) (.nm 1)) (sAsg (vr 3) (.nm 2))))) (sRet (vr 1)))
def m_l_root_of : TFd := fnD 1 4 t_l_root_of
def t_l_canonical : TSd := sSeq (sIf (tOrD (tbl (dTwo (vr 1) (cn (.int 0)) fEq)) (tbl (dTwo (dTwo (vr 2) (cn (.int 0)) fIx) (cn (.int 0)) fEq))) (sRet (dTup (aCons (vr 0) (aCons (cn (.int 0)) (aCons (dTup (aCons (cn (.int 0)) (aCons (cn (.int 1)) (aNil)))) (aNil)))))) (sNx)) (sSeq (sPar [3, 4] (aCons (dCall m_l_root_of 1 0 (fun ds _ => ds) (aCons (dTwo (vr 2) (cn (.int 0)) fIx) (aNil)) aNil) (aCons (dCall m_l_root_of 1 0 (fun ds _ => ds) (aCons (dTwo (vr 2) (cn (.int 1)) fIx) (aNil)) aNil) (aNil)))) (sSeq (sIf (tAndD (tbl (dTwo (dTwo (vr 3) (vr 3) fMul) (dTwo (vr 2) (cn (.int 0)) fIx) fEq)) (tbl (dTwo (dTwo (vr 4) (vr 4) fMul) (dTwo (vr 2) (cn (.int 1)) fIx) fEq))) (sRet (dTup (aCons (dCall m_l_plus 2 0 (fun ds _ => ds) (aCons (vr 0) (aCons (dTup (aCons (dTwo (vr 1) (vr 3) fMul) (aCons (vr 4) (aNil)))) (aNil))) aNil) (aCons (cn (.int 0)) (aCons (dTup (aCons (cn (.int 0)) (aCons (cn (.int 1)) (aNil)))) (aNil)))))) (sNx)) (sRet (dTup (aCons (vr 0) (aCons (vr 1) (aCons (vr 2) (aNil))))))))
def m_l_canonical : TFd := fnD 3 5 t_l_canonical
def t_times : TSd := sRet (dCall m_frac 2 0 (fun ds _ => ds ++ []) (aCons (dTwo (dTwo (vr 0) (cn (.int 0)) fIx) (dTwo (vr 1) (cn (.int 0)) fIx) fMul) (aCons (dTwo (dTwo (vr 0) (cn (.int 1)) fIx) (dTwo (vr 1) (cn (.int 1)) fIx) fMul) (aNil))) aNil)
def m_times : TFd := fnD 2 2 t_times
theorem e_times {a0 a1 : D} {S : Sto} {Q : DK} {E : EK} (k : t_times [some a0, some a1] S ⟨fun _ S1 => Q .non S1, Q, fun _ _ => False, fun _ _ => False, fun x _ S1 => E x S1⟩) : m_times [a0, a1] S Q E := ⟨rfl, k⟩
def t_sign_of : TSd := sRet (dTwo (dB bInt (aCons (dTwo (vr 0) (cn (.int 0)) fGt) (aNil))) (dB bInt (aCons (dTwo (vr 0) (cn (.int 0)) fLt) (aNil))) fSub)
def m_sign_of : TFd := fnD 1 1 t_sign_of
def t_scaled : TSd := sSeq (sAsg (vr 0) (.tp (.nm 2 :: .nm 3 :: .nm 4 :: []))) (sRet (dCall m_root 1 2 (fun a b => g_root_sign_square a b) (aCons (dCall m_times 2 0 (fun ds _ => ds) (aCons (vr 2) (aCons (vr 1) (aNil))) aNil) (aNil)) (aCons (dTwo (vr 3) (dCall m_sign_of 1 0 (fun ds _ => ds) (aCons (dTwo (vr 1) (cn (.int 0)) fIx) (aNil)) aNil) fMul) (aCons (dCall m_times 2 0 (fun ds _ => ds) (aCons (vr 4) (aCons (dCall m_times 2 0 (fun ds _ => ds) (aCons (vr 1) (aCons (vr 1) (aNil))) aNil) (aNil))) aNil) (aNil)))))
def m_scaled : TFd := fnD 2 5 t_scaled
def t_moved : TSd := sSeq (sAsg (vr 0) (.tp (.nm 2 :: .nm 3 :: .nm 4 :: []))) (sRet (dTup (aCons (dCall m_plus 2 0 (fun ds _ => ds) (aCons (vr 2) (aCons (vr 1) (aNil))) aNil) (aCons (vr 3) (aCons (vr 4) (aNil))))))
def m_moved : TFd := fnD 2 5 t_moved
theorem e_moved {a0 a1 : D} {S : Sto} {Q : DK} {E : EK} (k : t_moved [some a0, some a1, none, none, none] S ⟨fun _ S1 => Q .non S1, Q, fun _ _ => False, fun _ _ => False, fun x _ S1 => E x S1⟩) : m_moved [a0, a1] S Q E := ⟨rfl, k⟩
end Lb

namespace Lb
open PySem PySem.Spec PyProof.Rows L2 Bl
/-! ### how great -/
def sm (n : Nat) (i : Int) : Prop := i.natAbs < 2 ^ n
theorem sm.mono {m n : Nat} {i : Int} (h : sm m i) (l : m ≤ n) : sm n i := Nat.lt_of_lt_of_le h (Nat.pow_le_pow_right (by decide) l)
theorem sm.mul {m n : Nat} {i j : Int} (a : sm m i) (b : sm n j) : sm (m + n) (i * j) := by
  unfold sm at *
  rw [Int.natAbs_mul, Nat.pow_add]
  exact Nat.mul_lt_mul'' a b
theorem sm.add {n : Nat} {i j : Int} (a : sm n i) (b : sm n j) : sm (n + 1) (i + j) := by
  unfold sm at *
  have h := Int.natAbs_add_le i j
  rw [Nat.pow_succ]
  omega
theorem sm.sub {n : Nat} {i j : Int} (a : sm n i) (b : sm n j) : sm (n + 1) (i - j) := by
  unfold sm at *
  rw [Nat.pow_succ]
  omega
theorem sm.neg {n : Nat} {i : Int} (a : sm n i) : sm n (-i) := by unfold sm at *; omega
theorem sm.of {n : Nat} {i : Int} (h : i.natAbs < 2 ^ n) : sm n i := h
theorem log2_le {n k : Nat} (h : n < 2 ^ k) : n.log2 ≤ k := by
  by_cases h0 : n = 0
  · subst h0; simp
  · exact Nat.le_of_lt ((Nat.log2_lt h0).mpr h)
theorem sm.cmul {m n : Nat} {i j : Int} (a : sm m i) (b : sm n j) (h : m + n < 1000000) : CMul' i j := by
  have h1 := log2_le a
  have h2 := log2_le b
  unfold CMul'
  omega
theorem sm.cdiv {n : Nat} {j : Int} (a : sm n j) (h0 : j ≠ 0) (h : n ≤ 9000) : CDiv' j := ⟨h0, Nat.lt_of_lt_of_le ((Nat.log2_lt (by omega)).mpr a) h⟩
theorem sm.bits {n : Nat} {j : Int} (a : sm n j) : Builtin.Int.intBits j ≤ n + 1 := by
  unfold Builtin.Int.intBits
  split
  · omega
  · have := log2_le a
    omega
/-! ### fractions -/
abbrev fr (r : Rat) : D := .tup [.int r.num, .int r.den]
structure sr (k : Nat) (r : Rat) : Prop where
  n : sm k r.num
  d : sm k r.den
theorem sr.mono {m n : Nat} {r : Rat} (h : sr m r) (l : m ≤ n) : sr n r := ⟨h.n.mono l, h.d.mono l⟩
theorem den_pos (r : Rat) : (0 : Int) < r.den := by have := r.den_pos; omega
theorem den_ne (r : Rat) : (r.den : Int) ≠ 0 := by have := r.den_pos; omega
theorem castne {q : Int} (h : q ≠ 0) : (q : Rat) ≠ 0 := fun z => h (Rat.intCast_eq_zero_iff.mp z)
/-- a fraction's parts, of any two whole numbers that make it -/
theorem low_of {p q : Int} {r : Rat} (hq : q ≠ 0) (h : r * q = p) : ∃ t : Int, t = q.sign * (Int.gcd p q) ∧ t ≠ 0 ∧ p = r.num * t ∧ q = r.den * t := by
  have e : r = Rat.divInt p q := by
    rw [Rat.divInt_eq_div, ← h, Rat.mul_div_cancel (castne hq)]
  have g0 : 0 < Int.gcd p q := Int.gcd_pos_of_ne_zero_right _ hq
  have gp : (Int.gcd p q : Int) ∣ p := Int.gcd_dvd_left ..
  have gq : (Int.gcd p q : Int) ∣ q := Int.gcd_dvd_right ..
  have ss : q.sign * q.sign = 1 := by
    rcases Int.lt_or_gt_of_ne hq with z | z
    · rw [Int.sign_eq_neg_one_of_neg z]; rfl
    · rw [Int.sign_eq_one_of_pos z]; rfl
  have sq : q.sign * q = q.natAbs := by
    rcases Int.lt_or_gt_of_ne hq with z | z
    · rw [Int.sign_eq_neg_one_of_neg z]; omega
    · rw [Int.sign_eq_one_of_pos z]; omega
  refine ⟨_, rfl, ?_, ?_, ?_⟩
  · intro z
    rcases Int.mul_eq_zero.mp z with z | z
    · rw [z] at ss; cases ss
    · omega
  · rw [e, Rat.num_divInt, Int.gcd_comm q p]
    have g1 : (Int.gcd p q : Int) ≠ 0 := by omega
    clear e sq gq
    obtain ⟨p', hp⟩ := gp
    generalize (Int.gcd p q : Int) = g at *
    have e1 : q.sign * p = g * (q.sign * p') := by rw [hp]; grind
    rw [e1, Int.mul_ediv_cancel_left _ g1, hp]
    grind
  · rw [e, Rat.den_divInt, if_neg hq, Int.gcd_comm q p, Int.natCast_ediv, ← sq]
    have g1 : (Int.gcd p q : Int) ≠ 0 := by omega
    clear e sq gp
    obtain ⟨q', hq'⟩ := gq
    generalize (Int.gcd p q : Int) = g at *
    generalize q.sign = s at *
    have e1 : s * q = g * (s * q') := by rw [hq']; grind
    rw [e1, Int.mul_ediv_cancel_left _ g1, hq']
    grind
theorem low_sm {p q : Int} {r : Rat} {n m : Nat} (hq : q ≠ 0) (h : r * q = p) (hp : sm n p) (hs : sm m q) : sm n r.num ∧ sm m r.den := by
  obtain ⟨t, _, t0, e1, e2⟩ := low_of hq h
  unfold sm at *
  have t1 : 1 ≤ t.natAbs := by omega
  constructor
  · rw [e1, Int.natAbs_mul] at hp
    exact Nat.lt_of_le_of_lt (Nat.le_mul_of_pos_right _ t1) hp
  · rw [e2, Int.natAbs_mul] at hs
    exact Nat.lt_of_le_of_lt (Nat.le_mul_of_pos_right _ t1) hs
theorem num_den (r : Rat) : r * (r.den : Int) = (r.num : Int) := by
  have h := Rat.num_divInt_den r
  rw [Rat.divInt_eq_div] at h
  have z := Rat.div_mul_cancel (a := (r.num : Rat)) (b := ((r.den : Int) : Rat)) (castne (den_ne r))
  rw [h] at z
  exact z
theorem sr.add {m n : Nat} {a b : Rat} (ha : sr m a) (hb : sr n b) : sr (m + n + 1) (a + b) := by
  have z := low_sm (p := a.num * b.den + b.num * a.den) (q := a.den * b.den) (r := a + b) (n := m + n + 1) (m := m + n) (Int.mul_ne_zero (den_ne a) (den_ne b)) (by
    have e1 := num_den a
    have e2 := num_den b
    simp only [Rat.intCast_mul, Rat.intCast_add]
    grind) (.add (ha.n.mul hb.d) ((hb.n.mul ha.d).mono (by omega))) (ha.d.mul hb.d)
  exact ⟨z.1, z.2.mono (by omega)⟩
theorem sr.neg {m : Nat} {a : Rat} (ha : sr m a) : sr m (-a) := ⟨by rw [Rat.neg_num]; exact ha.n.neg, by rw [Rat.neg_den]; exact ha.d⟩
theorem sr.mul {m n : Nat} {a b : Rat} (ha : sr m a) (hb : sr n b) : sr (m + n) (a * b) := by
  have z := low_sm (p := a.num * b.num) (q := a.den * b.den) (r := a * b) (n := m + n) (m := m + n) (Int.mul_ne_zero (den_ne a) (den_ne b)) (by
    have e1 := num_den a
    have e2 := num_den b
    simp only [Rat.intCast_mul, Rat.intCast_add]
    grind) (ha.n.mul hb.n) (ha.d.mul hb.d)
  exact ⟨z.1, z.2⟩
theorem sr.int {m : Nat} {i : Int} (h : sm m i) (h0 : 0 < m) : sr m (i : Rat) := ⟨h, by show (1 : Int).natAbs < 2 ^ m; have : 2 ^ 1 ≤ 2 ^ m := Nat.pow_le_pow_right (by decide) h0; omega⟩
theorem sr.zero {m : Nat} : sr (m + 1) 0 := ⟨by show (0 : Int).natAbs < _; exact Nat.pow_pos (by decide), by show (1 : Int).natAbs < 2 ^ (m + 1); have : 0 < 2 ^ m := Nat.pow_pos (by decide); rw [Nat.pow_succ]; omega⟩
theorem fr_inj {a b : Rat} (h1 : a.num = b.num) (h2 : (a.den : Int) = b.den) : a = b := Rat.ext h1 (by omega)
theorem eq_fr (a b : Rat) : eqD (fr a) (fr b) = decide (a = b) := by
  show (a.num == b.num && ((a.den : Int) == (b.den : Int) && true)) = _
  rw [Bool.eq_iff_iff]
  simp only [Bool.and_eq_true, beq_iff_eq, and_true, decide_eq_true_eq]
  exact ⟨fun h => fr_inj h.1 h.2, fun h => by rw [h]; exact ⟨rfl, rfl⟩⟩
/-! ### the greatest whole number whose square is no greater -/
def isq : Nat → Nat
  | 0 => 0
  | n + 1 => if (isq n + 1) * (isq n + 1) ≤ n + 1 then isq n + 1 else isq n
theorem isq_spec : ∀ n, isq n * isq n ≤ n ∧ n < (isq n + 1) * (isq n + 1)
  | 0 => by decide
  | n + 1 => by
    obtain ⟨h1, h2⟩ := isq_spec n
    unfold isq
    split
    · rename_i h
      refine ⟨h, ?_⟩
      have e : (isq n + 1 + 1) * (isq n + 1 + 1) = (isq n + 1) * (isq n + 1) + 2 * (isq n) + 3 := by grind
      omega
    · omega
theorem sq_lt {a b : Nat} (h : a * a < b * b) : a < b := by
  rcases Nat.lt_or_ge a b with z | z
  · exact z
  · have := Nat.mul_le_mul z z; omega
theorem isq_uniq {n k : Nat} (h1 : k * k ≤ n) (h2 : n < (k + 1) * (k + 1)) : k = isq n := by
  obtain ⟨g1, g2⟩ := isq_spec n
  have a := sq_lt (Nat.lt_of_le_of_lt h1 g2)
  have b := sq_lt (Nat.lt_of_le_of_lt g1 h2)
  omega
theorem isq_sq (k : Nat) : isq (k * k) = k := by
  refine (isq_uniq (Nat.le_refl _) ?_).symm
  have : (k + 1) * (k + 1) = k * k + 2 * k + 1 := by grind
  omega
theorem isq_pos {n : Nat} (h : 0 < n) : 0 < isq n := by
  obtain ⟨_, g2⟩ := isq_spec n
  rcases Nat.eq_zero_or_pos (isq n) with z | z
  · rw [z] at g2; omega
  · exact z
theorem isq_le (n : Nat) : isq n ≤ n := by
  obtain ⟨g1, _⟩ := isq_spec n
  rcases Nat.eq_zero_or_pos (isq n) with z | z
  · omega
  · have := Nat.le_mul_of_pos_left (isq n) z; omega
/-- a fraction's root, if it is a fraction times itself -/
def sqb (q : Rat) : Prop := ((isq q.num.toNat : Int) * isq q.num.toNat = q.num) ∧ ((isq q.den : Int) * isq q.den = q.den)
instance (q : Rat) : Decidable (sqb q) := by unfold sqb; infer_instance
def sqr (q : Rat) : Rat := ((isq q.num.toNat : Int) : Rat) / ((isq q.den : Int) : Rat)
theorem isq_den (q : Rat) : (isq q.den : Int) ≠ 0 := by have := isq_pos q.den_pos; omega
theorem sqr_mul {q : Rat} (h : sqb q) : sqr q * sqr q = q := by
  obtain ⟨h1, h2⟩ := h
  have e := num_den q
  have d0 := castne (isq_den q)
  have z := Rat.div_mul_cancel (a := ((isq q.num.toNat : Int) : Rat)) d0
  have h1' : ((isq q.num.toNat : Int) : Rat) * ((isq q.num.toNat : Int) : Rat) = (q.num : Rat) := by rw [← Rat.intCast_mul, h1]
  have h2' : ((isq q.den : Int) : Rat) * ((isq q.den : Int) : Rat) = ((q.den : Int) : Rat) := by rw [← Rat.intCast_mul, h2]
  have d1 := castne (den_ne q)
  unfold sqr
  grind
theorem sqr_nonneg (q : Rat) : 0 ≤ sqr q := by
  unfold sqr
  rw [← Rat.divInt_eq_div]
  exact Rat.divInt_nonneg (by omega) (by omega)
theorem sqb_of {q t : Rat} (h : t * t = q) : sqb q := by
  have e := num_den t
  have z : q.num = t.num * t.num ∧ (q.den : Int) = t.den * t.den := by
    subst h
    have h1 := Rat.num_mul t t
    have h2 := Rat.den_mul t t
    have c : Nat.gcd (t.num * t.num).natAbs (t.den * t.den) = 1 := by
      rw [Int.natAbs_mul]
      exact Nat.Coprime.mul_left (Nat.Coprime.mul_right t.reduced t.reduced) (Nat.Coprime.mul_right t.reduced t.reduced)
    rw [c] at h1 h2
    rw [h1, h2]
    simp
  unfold sqb
  rw [z.1]
  have e1 : (t.num * t.num).toNat = t.num.natAbs * t.num.natAbs := by
    have : t.num * t.num = ((t.num.natAbs * t.num.natAbs : Nat) : Int) := by
      have := Int.natAbs_mul_self' t.num
      rw [← this]
      push_cast
      rfl
    rw [this, Int.toNat_natCast]
  have e2 : q.den = t.den * t.den := by have := z.2; exact_mod_cast this
  rw [e1, isq_sq, e2, isq_sq]
  refine ⟨?_, by push_cast; rfl⟩
  have := Int.natAbs_mul_self' t.num
  exact this
theorem sqr_of {q t : Rat} (h : t * t = q) (h0 : 0 ≤ t) : sqr q = t := by
  have h1 := sqr_mul (sqb_of h)
  have h2 := sqr_nonneg q
  have : (sqr q - t) * (sqr q + t) = 0 := by grind
  rcases Rat.mul_eq_zero.mp this with z | z
  · grind
  · have : sqr q = 0 ∧ t = 0 := by grind
    rw [this.1, this.2]
end Lb

namespace Lb
open PySem PySem.Spec PyProof.Rows L2 Bl
theorem atI_0 {α : Type} {x : α} {l : List α} : atI (x :: l) 0 = some x := by
  unfold atI ixN
  simp
theorem atI_1 {α : Type} {x y : α} {l : List α} : atI (x :: y :: l) 1 = some y := atI_nat (j := 1) rfl
theorem atI_2 {α : Type} {x y z : α} {l : List α} : atI (x :: y :: z :: l) 2 = some z := atI_nat (j := 2) rfl
section
variable {i j : Int} {a b : List D} {S : Sto} {Q : DK} {P : Bool → Sto → Prop} {r : Addr} {x : Str} {c : Bool}
theorem truD_bl : truD (.bl c) S P = P c S := rfl
theorem truD_int : truD (.int i) S P = P (i != 0) S := rfl
theorem truD_non : truD .non S P = P false S := rfl
theorem truD_tup : truD (.tup a) S P = P (!a.isEmpty) S := rfl
theorem truD_lst : truD (.lst a) S P = P (!a.isEmpty) S := rfl
theorem truD_str : truD (.str x) S P = (x.length ≤ sizeLine ∧ P ((x.length : Int) != 0) S) := rfl
theorem truD_ref : truD (.ref r) S P = match S r with | some ds => P (!ds.isEmpty) S | none => False := rfl
theorem fAdd_int : fAdd (.int i) (.int j) S Q = Q (.int (i + j)) S := rfl
theorem fAdd_tup : fAdd (.tup a) (.tup b) S Q = (a.length + b.length ≤ sizeLine ∧ Q (.tup (a ++ b)) S) := rfl
theorem fIx_tup : fIx (.tup a) (.int i) S Q = match atI a i with | some d => Q d S | none => False := rfl
theorem fIx_lst : fIx (.lst a) (.int i) S Q = match atI a i with | some d => Q d S | none => False := rfl
theorem fIx_ref : fIx (.ref r) (.int i) S Q = match S r with | some ds => (match atI ds i with | some d => Q d S | none => False) | none => False := rfl
theorem bLen_tup : bLen [.tup a] S Q = Q (.int a.length) S := rfl
theorem bLen_lst : bLen [.lst a] S Q = Q (.int a.length) S := rfl
theorem bLen_ref : bLen [.ref r] S Q = match S r with | some xs => Q (.int xs.length) S | none => False := rfl
theorem bInt_int : bInt [.int i] S Q = Q (.int i) S := rfl
theorem bInt_bl : bInt [.bl c] S Q = Q (.int (if c then 1 else 0)) S := rfl
end
theorem ix20 : ixN 2 0 = some 0 := rfl
theorem ix21 : ixN 2 1 = some 1 := rfl
/-! ### the two tellings of gcd -/
theorem gcd_step {x y : Int} (hx : 0 < x) (hy : 0 ≤ y) : 0 ≤ y.fmod x ∧ y.fmod x < x ∧ Int.gcd (y.fmod x) x = Int.gcd x y := by
  have e : y.fmod x = y % x := Int.fmod_eq_emod_of_nonneg _ (by omega)
  rw [e]
  exact ⟨Int.emod_nonneg _ (by omega), Int.emod_lt_of_pos _ hx, by unfold Int.gcd; rw [Int.natAbs_emod_of_nonneg hy]; exact (Nat.gcd_rec x.natAbs y.natAbs).symm⟩
theorem fdiv_mul {a t : Int} (h : t ≠ 0) : (a * t).fdiv t = a := Int.mul_fdiv_cancel _ h
theorem sm.abs {n : Nat} {p : Int} (h : sm n p) : sm n (if p < 0 then -p else p) := by
  split
  · exact h.neg
  · exact h
theorem low_loop {p q : Int} {n : Nat} {r : Rat} {S : Sto} {N : Nd} (hq : 0 < q) (hp : sm n p) (hs : sm n q) (hn : n ≤ 8900) (h : r * q = p) (k : N.rt (fr r) S) :
    sSeq (sWhile (tbl (dTwo (vr 2) (cn (.int 0)) fGt)) (sPar [2, 3] (aCons (dTwo (vr 3) (vr 2) fMod) (aCons (vr 2) (aNil))))) (sRet (dTup (aCons (dTwo (vr 0) (vr 3) fDiv) (aCons (dTwo (vr 1) (vr 3) fDiv) (aNil)))))
      [some (.int p), some (.int q), some (.int (if p < 0 then -p else p)), some (.int q)] S N := by
  obtain ⟨t, et, t0, e1, e2⟩ := low_of (by omega) h
  rw [Int.sign_eq_one_of_pos hq, Int.one_mul] at et
  simp only [fnD, sNx, sSeq, sRet, sRetN, sDrop, sIf, sBrk, sCnt, sAsg, sPar, sAug, sSub, setD, sThru, asgT, asgL, itemsOf, vr, cn, dTwo, tbl, ttr, truD_bl, truD_int, truD_non, truD_tup, truD_lst, truD_str, truD_ref, tAndD, tOrD, tNotD, vOf, eIf, vNot, dNeg, fAdd_int, fAdd_tup, fSub, fMul, fDiv, fMod, fPow, fShl, fLt, fLe, fGt, fGe, fEq, fNe, fIx_tup, fIx_lst, fIx_ref, aNil, aCons, dTup, dLst, dLstR, dB, bAbs, bLen_tup, bLen_lst, bLen_ref, bMax, bMin, bInt_int, bInt_bl, dBits, dCall, iVal, iR1, iR2, List.map_cons, List.map_nil, List.length_cons, List.length_nil, List.replicate, List.cons_append, List.nil_append, List.append_nil, List.set, List.getElem?_cons_zero, List.getElem?_cons_succ, List.getElem?_nil, atI_0, atI_1, atI_2, ix20, ix21, sup_same, Nat.reduceAdd, Nat.reduceSub, Nat.succ_eq_add_one, decide_eq_true_eq, Bool.not_eq_true', decide_eq_false_iff_not, true_and, and_true, Bool.true_eq_false, Bool.false_eq_true, if_true, if_false, reduceCtorEq]
  refine ⟨fun m e s => ∃ x y : Int, e = [some (.int p), some (.int q), some (.int x), some (.int y)] ∧ s = S ∧ 0 ≤ x ∧ 0 < y ∧ sm n x ∧ sm n y ∧ (Int.gcd x y : Int) = t ∧ m = x.toNat, ⟨_, _, q, rfl, rfl, by split <;> omega, hq, hp.abs, hs, ?_, rfl⟩, ?_⟩
  · rw [et]
    split
    · rw [Int.neg_gcd]
    · rfl
  · rintro m e s ⟨x, y, rfl, rfl, hx, hy, hxs, hys, hg, rfl⟩
    simp only [fnD, sNx, sSeq, sRet, sRetN, sDrop, sIf, sBrk, sCnt, sAsg, sPar, sAug, sSub, setD, sThru, asgT, asgL, itemsOf, vr, cn, dTwo, tbl, ttr, truD_bl, truD_int, truD_non, truD_tup, truD_lst, truD_str, truD_ref, tAndD, tOrD, tNotD, vOf, eIf, vNot, dNeg, fAdd_int, fAdd_tup, fSub, fMul, fDiv, fMod, fPow, fShl, fLt, fLe, fGt, fGe, fEq, fNe, fIx_tup, fIx_lst, fIx_ref, aNil, aCons, dTup, dLst, dLstR, dB, bAbs, bLen_tup, bLen_lst, bLen_ref, bMax, bMin, bInt_int, bInt_bl, dBits, dCall, iVal, iR1, iR2, List.map_cons, List.map_nil, List.length_cons, List.length_nil, List.replicate, List.cons_append, List.nil_append, List.append_nil, List.set, List.getElem?_cons_zero, List.getElem?_cons_succ, List.getElem?_nil, atI_0, atI_1, atI_2, ix20, ix21, sup_same, Nat.reduceAdd, Nat.reduceSub, Nat.succ_eq_add_one, decide_eq_true_eq, Bool.not_eq_true', decide_eq_false_iff_not, true_and, and_true, Bool.true_eq_false, Bool.false_eq_true, if_true, if_false, reduceCtorEq]
    split
    · rename_i hx0
      obtain ⟨g1, g2, g3⟩ := gcd_step hx0 (show 0 ≤ y by omega)
      exact ⟨by omega, (y.fmod x).toNat, by omega, _, x, rfl, g1, hx0, by unfold sm at *; omega, hxs, by rw [g3]; exact hg, rfl⟩
    · have hx1 : x = 0 := by omega
      subst hx1
      rw [Int.gcd_zero_left] at hg
      have hy2 : y = t := by omega
      subst hy2
      have hd : CDiv' y := hys.cdiv (by omega) (by omega)
      refine ⟨hd, hd, by decide, ?_⟩
      have d1 : p.fdiv y = r.num := by rw [e1, fdiv_mul t0]
      have d2 : q.fdiv y = r.den := by rw [e2, fdiv_mul t0]
      rw [d1, d2]
      exact k
theorem low_spec {p q : Int} {n : Nat} {r : Rat} {S : Sto} {Q : DK} {E : EK} (hq : q ≠ 0) (hp : sm n p) (hs : sm n q) (hn : n ≤ 8900) (h : r * q = p) (k : Q (fr r) S) : m_l_low [.int p, .int q] S Q E := by
  unfold m_l_low t_l_low
  by_cases hq0 : q < 0
  · have z := low_loop (p := 0 - p) (q := 0 - q) (n := n) (r := r) (S := S) (N := ⟨fun _ S1 => Q .non S1, Q, fun _ _ => False, fun _ _ => False, fun x _ S1 => E x S1⟩) (by omega) (by unfold sm at *; omega) (by unfold sm at *; omega) hn (by
      simp only [Rat.intCast_sub]
      grind) k
    simp only [fnD, sNx, sSeq, sRet, sRetN, sDrop, sIf, sBrk, sCnt, sAsg, sPar, sAug, sSub, setD, sThru, asgT, asgL, itemsOf, vr, cn, dTwo, tbl, ttr, truD_bl, truD_int, truD_non, truD_tup, truD_lst, truD_str, truD_ref, tAndD, tOrD, tNotD, vOf, eIf, vNot, dNeg, fAdd_int, fAdd_tup, fSub, fMul, fDiv, fMod, fPow, fShl, fLt, fLe, fGt, fGe, fEq, fNe, fIx_tup, fIx_lst, fIx_ref, aNil, aCons, dTup, dLst, dLstR, dB, bAbs, bLen_tup, bLen_lst, bLen_ref, bMax, bMin, bInt_int, bInt_bl, dBits, dCall, iVal, iR1, iR2, List.map_cons, List.map_nil, List.length_cons, List.length_nil, List.replicate, List.cons_append, List.nil_append, List.append_nil, List.set, List.getElem?_cons_zero, List.getElem?_cons_succ, List.getElem?_nil, atI_0, atI_1, atI_2, ix20, ix21, sup_same, Nat.reduceAdd, Nat.reduceSub, Nat.succ_eq_add_one, decide_eq_true_eq, Bool.not_eq_true', decide_eq_false_iff_not, true_and, and_true, Bool.true_eq_false, Bool.false_eq_true, if_true, if_false, reduceCtorEq] at z ⊢
    rw [if_pos hq0]
    exact z
  · have z := low_loop (p := p) (q := q) (n := n) (r := r) (S := S) (N := ⟨fun _ S1 => Q .non S1, Q, fun _ _ => False, fun _ _ => False, fun x _ S1 => E x S1⟩) (by omega) hp hs hn h k
    simp only [fnD, sNx, sSeq, sRet, sRetN, sDrop, sIf, sBrk, sCnt, sAsg, sPar, sAug, sSub, setD, sThru, asgT, asgL, itemsOf, vr, cn, dTwo, tbl, ttr, truD_bl, truD_int, truD_non, truD_tup, truD_lst, truD_str, truD_ref, tAndD, tOrD, tNotD, vOf, eIf, vNot, dNeg, fAdd_int, fAdd_tup, fSub, fMul, fDiv, fMod, fPow, fShl, fLt, fLe, fGt, fGe, fEq, fNe, fIx_tup, fIx_lst, fIx_ref, aNil, aCons, dTup, dLst, dLstR, dB, bAbs, bLen_tup, bLen_lst, bLen_ref, bMax, bMin, bInt_int, bInt_bl, dBits, dCall, iVal, iR1, iR2, List.map_cons, List.map_nil, List.length_cons, List.length_nil, List.replicate, List.cons_append, List.nil_append, List.append_nil, List.set, List.getElem?_cons_zero, List.getElem?_cons_succ, List.getElem?_nil, atI_0, atI_1, atI_2, ix20, ix21, sup_same, Nat.reduceAdd, Nat.reduceSub, Nat.succ_eq_add_one, decide_eq_true_eq, Bool.not_eq_true', decide_eq_false_iff_not, true_and, and_true, Bool.true_eq_false, Bool.false_eq_true, if_true, if_false, reduceCtorEq] at z ⊢
    rw [if_neg hq0]
    exact z
abbrev pr (a b : Int) : D := .tup [.int a, .int b]
theorem lplus_spec {a b c d : Int} {n : Nat} {r : Rat} {S : Sto} {Q : DK} {E : EK} (hb : b ≠ 0) (hd : d ≠ 0) (ha : sm n a) (hb' : sm n b) (hc : sm n c) (hd' : sm n d) (hn : n ≤ 4440) (h : r * (b * d : Int) = (a * d + c * b : Int)) (k : Q (fr r) S) : m_l_plus [pr a b, pr c d] S Q E := by
  unfold m_l_plus t_l_plus
  simp only [fnD, sNx, sSeq, sRet, sRetN, sDrop, sIf, sBrk, sCnt, sAsg, sPar, sAug, sSub, setD, sThru, asgT, asgL, itemsOf, vr, cn, dTwo, tbl, ttr, truD_bl, truD_int, truD_non, truD_tup, truD_lst, truD_str, truD_ref, tAndD, tOrD, tNotD, vOf, eIf, vNot, dNeg, fAdd_int, fAdd_tup, fSub, fMul, fDiv, fMod, fPow, fShl, fLt, fLe, fGt, fGe, fEq, fNe, fIx_tup, fIx_lst, fIx_ref, aNil, aCons, dTup, dLst, dLstR, dB, bAbs, bLen_tup, bLen_lst, bLen_ref, bMax, bMin, bInt_int, bInt_bl, dBits, dCall, iVal, iR1, iR2, List.map_cons, List.map_nil, List.length_cons, List.length_nil, List.replicate, List.cons_append, List.nil_append, List.append_nil, List.set, List.getElem?_cons_zero, List.getElem?_cons_succ, List.getElem?_nil, atI_0, atI_1, atI_2, ix20, ix21, sup_same, Nat.reduceAdd, Nat.reduceSub, Nat.succ_eq_add_one, decide_eq_true_eq, Bool.not_eq_true', decide_eq_false_iff_not, true_and, and_true, Bool.true_eq_false, Bool.false_eq_true, if_true, if_false, reduceCtorEq]
  refine ⟨ha.cmul hd' (by omega), hc.cmul hb' (by omega), hb'.cmul hd' (by omega), ?_⟩
  exact low_spec (n := n + n + 1) (Int.mul_ne_zero hb hd) ((ha.mul hd').add (hc.mul hb')) ((hb'.mul hd').mono (by omega)) (by omega) h k
/-! ### the drawn numbers -/
def Bg (S : Sto) (a : Addr) : Prop := ∃ c m : Int, S a = some [.int c, .int m] ∧ 0 ≤ c ∧ 0 ≤ m ∧ m < 2147483648
def Fr (S S' : Sto) (a : Addr) : Prop := ∀ b, b ≠ a → S' b = S b
theorem Fr.refl (S : Sto) (a : Addr) : Fr S S a := fun _ _ => rfl
theorem Fr.trans {S S1 S2 : Sto} {a : Addr} (h : Fr S S1 a) (k : Fr S1 S2 a) : Fr S S2 a := fun b hb => (k b hb).trans (h b hb)
theorem Fr.sup {S : Sto} {a : Addr} {ds : List D} : Fr S (sup S a ds) a := fun b hb => sup_ne hb
theorem fmod_pos {a b : Int} (h : 0 < b) : 0 ≤ a.fmod b ∧ a.fmod b < b := by
  rw [Int.fmod_eq_emod_of_nonneg _ (by omega)]
  exact ⟨Int.emod_nonneg _ (by omega), Int.emod_lt_of_pos _ h⟩
theorem fdiv_nonneg {a b : Int} (h : 0 < b) (ha : 0 ≤ a) : 0 ≤ a.fdiv b := by
  rw [Int.fdiv_eq_ediv_of_nonneg _ (by omega)]
  exact Int.ediv_nonneg ha (by omega)
theorem take_spec {a : Addr} {many : Int} {S : Sto} {Q : DK} {E : EK} (hb : Bg S a) (h0 : 0 < many) (h1 : sm 9000 many) (k : ∀ d S', 0 ≤ d → d < many → Bg S' a → Fr S S' a → Q (.int d) S') : m_l_take [.ref a, .int many] S Q E := by
  obtain ⟨c, m, e, hc, hm, hm2⟩ := hb
  unfold m_l_take t_l_take
  simp only [e, fnD, sNx, sSeq, sRet, sRetN, sDrop, sIf, sBrk, sCnt, sAsg, sPar, sAug, sSub, setD, sThru, asgT, asgL, itemsOf, vr, cn, dTwo, tbl, ttr, truD_bl, truD_int, truD_non, truD_tup, truD_lst, truD_str, truD_ref, tAndD, tOrD, tNotD, vOf, eIf, vNot, dNeg, fAdd_int, fAdd_tup, fSub, fMul, fDiv, fMod, fPow, fShl, fLt, fLe, fGt, fGe, fEq, fNe, fIx_tup, fIx_lst, fIx_ref, aNil, aCons, dTup, dLst, dLstR, dB, bAbs, bLen_tup, bLen_lst, bLen_ref, bMax, bMin, bInt_int, bInt_bl, dBits, dCall, iVal, iR1, iR2, List.map_cons, List.map_nil, List.length_cons, List.length_nil, List.replicate, List.cons_append, List.nil_append, List.append_nil, List.set, List.getElem?_cons_zero, List.getElem?_cons_succ, List.getElem?_nil, atI_0, atI_1, atI_2, ix20, ix21, sup_same, Nat.reduceAdd, Nat.reduceSub, Nat.succ_eq_add_one, decide_eq_true_eq, Bool.not_eq_true', decide_eq_false_iff_not, true_and, and_true, Bool.true_eq_false, Bool.false_eq_true, if_true, if_false, reduceCtorEq]
  split
  · rename_i hc0
    exact ⟨by omega, h1.cdiv (by omega) (by omega), k _ _ (fmod_pos h0).1 (fmod_pos h0).2 ⟨_, _, sup_same, fdiv_nonneg h0 hc, hm, hm2⟩ Fr.sup⟩
  · have g := fmod_pos (a := m * 48271) (b := 2147483647) (by omega)
    refine ⟨(sm.of (n := 32) (by omega)).cmul (sm.of (n := 32) (by decide)) (by decide), by decide, by decide, ?_, by decide, by decide, by omega, k _ _ (fmod_pos h0).1 (fmod_pos h0).2 ⟨_, _, sup_same, hc, g.1, by omega⟩ Fr.sup⟩
    have z := (sm.of (n := 31) (i := (m * 48271).fmod 2147483647) (by omega)).bits
    omega
theorem sm_k {i : Int} (h : i.natAbs < 2 ^ 8) : sm 9000 i := sm.mono (m := 8) h (by decide)
theorem number_spec {a : Addr} {S : Sto} {Q : DK} {E : EK} (hb : Bg S a) (k : ∀ r S', sr 40 r → Bg S' a → Fr S S' a → Q (fr r) S') : m_l_number [.ref a] S Q E := by
  unfold m_l_number t_l_number
  simp only [fnD, sNx, sSeq, sRet, sRetN, sDrop, sIf, sBrk, sCnt, sAsg, sPar, sAug, sSub, setD, sThru, asgT, asgL, itemsOf, vr, cn, dTwo, tbl, ttr, truD_bl, truD_int, truD_non, truD_tup, truD_lst, truD_str, truD_ref, tAndD, tOrD, tNotD, vOf, eIf, vNot, dNeg, fAdd_int, fAdd_tup, fSub, fMul, fDiv, fMod, fPow, fShl, fLt, fLe, fGt, fGe, fEq, fNe, fIx_tup, fIx_lst, fIx_ref, aNil, aCons, dTup, dLst, dLstR, dB, bAbs, bLen_tup, bLen_lst, bLen_ref, bMax, bMin, bInt_int, bInt_bl, dBits, dCall, iVal, iR1, iR2, List.map_cons, List.map_nil, List.length_cons, List.length_nil, List.replicate, List.cons_append, List.nil_append, List.append_nil, List.set, List.getElem?_cons_zero, List.getElem?_cons_succ, List.getElem?_nil, atI_0, atI_1, atI_2, ix20, ix21, sup_same, Nat.reduceAdd, Nat.reduceSub, Nat.succ_eq_add_one, decide_eq_true_eq, Bool.not_eq_true', decide_eq_false_iff_not, true_and, and_true, Bool.true_eq_false, Bool.false_eq_true, if_true, if_false, reduceCtorEq]
  refine ⟨by decide, by decide, by decide, take_spec hb (by omega) (sm_k (by decide)) fun d S1 d0 d1 b1 f1 => ?_⟩
  have : ∃ most : Int, 0 < most ∧ most ≤ 1000000000000 ∧ atI [D.int 2, .int 6, .int 1000, .int (10 ^ Int.toNat 12)] d = some (.int most) := by
    rcases (by omega : d = 0 ∨ d = 1 ∨ d = 2 ∨ d = 3) with h | h | h | h <;> subst h
    · exact ⟨2, by omega, by omega, atI_0⟩
    · exact ⟨6, by omega, by omega, atI_1⟩
    · exact ⟨1000, by omega, by omega, atI_2⟩
    · exact ⟨1000000000000, by omega, by omega, atI_nat (j := 3) rfl⟩
  obtain ⟨most, m0, m1, e⟩ := this
  simp only [e, fnD, sNx, sSeq, sRet, sRetN, sDrop, sIf, sBrk, sCnt, sAsg, sPar, sAug, sSub, setD, sThru, asgT, asgL, itemsOf, vr, cn, dTwo, tbl, ttr, truD_bl, truD_int, truD_non, truD_tup, truD_lst, truD_str, truD_ref, tAndD, tOrD, tNotD, vOf, eIf, vNot, dNeg, fAdd_int, fAdd_tup, fSub, fMul, fDiv, fMod, fPow, fShl, fLt, fLe, fGt, fGe, fEq, fNe, fIx_tup, fIx_lst, fIx_ref, aNil, aCons, dTup, dLst, dLstR, dB, bAbs, bLen_tup, bLen_lst, bLen_ref, bMax, bMin, bInt_int, bInt_bl, dBits, dCall, iVal, iR1, iR2, List.map_cons, List.map_nil, List.length_cons, List.length_nil, List.replicate, List.cons_append, List.nil_append, List.append_nil, List.set, List.getElem?_cons_zero, List.getElem?_cons_succ, List.getElem?_nil, atI_0, atI_1, atI_2, ix20, ix21, sup_same, Nat.reduceAdd, Nat.reduceSub, Nat.succ_eq_add_one, decide_eq_true_eq, Bool.not_eq_true', decide_eq_false_iff_not, true_and, and_true, Bool.true_eq_false, Bool.false_eq_true, if_true, if_false, reduceCtorEq]
  have hmost : sm 9000 most := sm.mono (m := 41) (by unfold sm; omega) (by decide)
  refine take_spec b1 m0 hmost fun x S2 x0 x1 b2 f2 => take_spec b2 (by omega) (sm_k (by decide)) fun y S3 y0 y1 b3 f3 => ?_
  refine ⟨(sm.of (n := 2) (i := 2) (by decide)).cmul (sm.of (n := 2) (by omega)) (by decide), (sm.of (n := 40) (by omega)).cmul (sm.of (n := 3) (by omega)) (by decide), ?_⟩
  refine take_spec b3 m0 hmost fun z S4 z0 z1 b4 f4 => ?_
  refine ⟨by decide, take_spec b4 (by omega) (sm_k (by decide)) fun u S5 u0 u1 b5 f5 => ?_⟩
  have : ∃ bot : Int, 0 < bot ∧ bot ≤ 1000000000000 ∧ atI [D.int 1, .int (1 + z)] u = some (.int bot) := by
    rcases (by omega : u = 0 ∨ u = 1) with h | h <;> subst h
    · exact ⟨1, by omega, by omega, atI_0⟩
    · exact ⟨1 + z, by omega, by omega, atI_1⟩
  obtain ⟨bot, g0, g1, e2⟩ := this
  simp only [e2, fnD, sNx, sSeq, sRet, sRetN, sDrop, sIf, sBrk, sCnt, sAsg, sPar, sAug, sSub, setD, sThru, asgT, asgL, itemsOf, vr, cn, dTwo, tbl, ttr, truD_bl, truD_int, truD_non, truD_tup, truD_lst, truD_str, truD_ref, tAndD, tOrD, tNotD, vOf, eIf, vNot, dNeg, fAdd_int, fAdd_tup, fSub, fMul, fDiv, fMod, fPow, fShl, fLt, fLe, fGt, fGe, fEq, fNe, fIx_tup, fIx_lst, fIx_ref, aNil, aCons, dTup, dLst, dLstR, dB, bAbs, bLen_tup, bLen_lst, bLen_ref, bMax, bMin, bInt_int, bInt_bl, dBits, dCall, iVal, iR1, iR2, List.map_cons, List.map_nil, List.length_cons, List.length_nil, List.replicate, List.cons_append, List.nil_append, List.append_nil, List.set, List.getElem?_cons_zero, List.getElem?_cons_succ, List.getElem?_nil, atI_0, atI_1, atI_2, ix20, ix21, sup_same, Nat.reduceAdd, Nat.reduceSub, Nat.succ_eq_add_one, decide_eq_true_eq, Bool.not_eq_true', decide_eq_false_iff_not, true_and, and_true, Bool.true_eq_false, Bool.false_eq_true, if_true, if_false, reduceCtorEq]
  have hy : y = 0 ∨ y = 1 := by omega
  have ht : sm 40 (x * (1 - 2 * y)) := by
    rcases hy with h | h <;> subst h <;> (unfold sm; omega)
  have hd : sm 40 bot := by unfold sm; omega
  have hq : (((x * (1 - 2 * y) : Int) : Rat) / (bot : Rat)) * (bot : Rat) = ((x * (1 - 2 * y) : Int) : Rat) := Rat.div_mul_cancel (castne (by omega))
  have z := low_sm (by omega) hq ht hd
  exact low_spec (n := 40) (by omega) ht hd (by decide) hq (k _ _ ⟨z.1, z.2⟩ b5 ((((f1.trans f2).trans f3).trans f4).trans f5))
def rabs (r : Rat) : Rat := if r.num < 0 then -r else r
theorem rabs_num (r : Rat) : (rabs r).num = if r.num < 0 then -r.num else r.num := by
  unfold rabs
  split
  · rfl
  · rfl
theorem rabs_den (r : Rat) : (rabs r).den = r.den := by
  unfold rabs
  split <;> rfl
theorem sr.abs {n : Nat} {r : Rat} (h : sr n r) : sr n (rabs r) := ⟨by rw [rabs_num]; exact h.n.abs, by rw [rabs_den]; exact h.d⟩
theorem rabs_nonneg (r : Rat) : 0 ≤ rabs r := by
  rw [← Rat.num_nonneg, rabs_num]
  split <;> omega
theorem sq_nonneg (r : Rat) : 0 ≤ r * r := by
  rcases Rat.le_total (a := 0) (b := r) with h | h
  · exact Rat.mul_nonneg h h
  · have : r * r = (-r) * (-r) := by grind
    rw [this]
    exact Rat.mul_nonneg (by grind) (by grind)
/-! ### roots of whole numbers -/
theorem isq_of {n f : Int} (h0 : 0 ≤ f) (h1 : f * f ≤ n) (h2 : n < (f + 1) * (f + 1)) : f = (isq n.toNat : Int) := by
  obtain ⟨m, rfl⟩ := Int.eq_ofNat_of_zero_le h0
  have hn : 0 ≤ n := Int.le_trans (Int.mul_nonneg h0 h0) h1
  obtain ⟨k, rfl⟩ := Int.eq_ofNat_of_zero_le hn
  rw [Int.toNat_natCast]
  have := isq_uniq (n := k) (k := m) (by exact_mod_cast h1) (by exact_mod_cast h2)
  omega
theorem root_of_spec {n : Int} {m : Nat} {S : Sto} {Q : DK} {E : EK} (h0 : 0 ≤ n) (hs : sm m n) (hm : m ≤ 100000) (k : Q (.int (isq n.toNat)) S) : m_l_root_of [.int n] S Q E := by
  unfold m_l_root_of t_l_root_of
  simp only [fnD, sNx, sSeq, sRet, sRetN, sDrop, sIf, sBrk, sCnt, sAsg, sPar, sAug, sSub, setD, sThru, asgT, asgL, itemsOf, vr, cn, dTwo, tbl, ttr, truD_bl, truD_int, truD_non, truD_tup, truD_lst, truD_str, truD_ref, tAndD, tOrD, tNotD, vOf, eIf, vNot, dNeg, fAdd_int, fAdd_tup, fSub, fMul, fDiv, fMod, fPow, fShl, fLt, fLe, fGt, fGe, fEq, fNe, fIx_tup, fIx_lst, fIx_ref, aNil, aCons, dTup, dLst, dLstR, dB, bAbs, bLen_tup, bLen_lst, bLen_ref, bMax, bMin, bInt_int, bInt_bl, dBits, dCall, iVal, iR1, iR2, List.map_cons, List.map_nil, List.length_cons, List.length_nil, List.replicate, List.cons_append, List.nil_append, List.append_nil, List.set, List.getElem?_cons_zero, List.getElem?_cons_succ, List.getElem?_nil, atI_0, atI_1, atI_2, ix20, ix21, sup_same, Nat.reduceAdd, Nat.reduceSub, Nat.succ_eq_add_one, decide_eq_true_eq, Bool.not_eq_true', decide_eq_false_iff_not, true_and, and_true, Bool.true_eq_false, Bool.false_eq_true, if_true, if_false, reduceCtorEq]
  refine ⟨fun j e s => ∃ lo hi : Int, ∃ o, e = [some (.int n), some (.int lo), some (.int hi), o] ∧ s = S ∧ 0 ≤ lo ∧ lo < hi ∧ hi ≤ n + 1 ∧ lo * lo ≤ n ∧ n < hi * hi ∧ j = (hi - lo).toNat, ⟨_, 0, n + 1, _, rfl, rfl, by omega, by omega, by omega, by omega, ?_, rfl⟩, ?_⟩
  · have : (n + 1) * (n + 1) = n * n + n + n + 1 := by grind
    have := Int.mul_nonneg h0 h0
    omega
  · rintro j e s ⟨lo, hi, o, rfl, rfl, l0, l1, l2, l3, l4, rfl⟩
    simp only [fnD, sNx, sSeq, sRet, sRetN, sDrop, sIf, sBrk, sCnt, sAsg, sPar, sAug, sSub, setD, sThru, asgT, asgL, itemsOf, vr, cn, dTwo, tbl, ttr, truD_bl, truD_int, truD_non, truD_tup, truD_lst, truD_str, truD_ref, tAndD, tOrD, tNotD, vOf, eIf, vNot, dNeg, fAdd_int, fAdd_tup, fSub, fMul, fDiv, fMod, fPow, fShl, fLt, fLe, fGt, fGe, fEq, fNe, fIx_tup, fIx_lst, fIx_ref, aNil, aCons, dTup, dLst, dLstR, dB, bAbs, bLen_tup, bLen_lst, bLen_ref, bMax, bMin, bInt_int, bInt_bl, dBits, dCall, iVal, iR1, iR2, List.map_cons, List.map_nil, List.length_cons, List.length_nil, List.replicate, List.cons_append, List.nil_append, List.append_nil, List.set, List.getElem?_cons_zero, List.getElem?_cons_succ, List.getElem?_nil, atI_0, atI_1, atI_2, ix20, ix21, sup_same, Nat.reduceAdd, Nat.reduceSub, Nat.succ_eq_add_one, decide_eq_true_eq, Bool.not_eq_true', decide_eq_false_iff_not, true_and, and_true, Bool.true_eq_false, Bool.false_eq_true, if_true, if_false, reduceCtorEq]
    split
    · rename_i hc
      have hmid : lo < (lo + hi).fdiv 2 ∧ (lo + hi).fdiv 2 < hi := by
        rw [Int.fdiv_eq_ediv_of_nonneg _ (by omega)]
        omega
      generalize (lo + hi).fdiv 2 = mid at *
      have hms : sm m mid ∨ mid = n := by
        by_cases z : mid = n
        · exact .inr z
        · left; unfold sm at *; omega
      have hms : sm m mid := by
        rcases hms with z | z
        · exact z
        · rw [z]; exact hs
      refine ⟨⟨by decide, by decide⟩, hms.cmul hms (by omega), ?_⟩
      split
      · rename_i h
        exact ⟨(hi - mid).toNat, by omega, mid, hi, _, rfl, by omega, by omega, l2, h, l4, rfl⟩
      · rename_i h
        exact ⟨(mid - lo).toNat, by omega, lo, mid, _, rfl, by omega, by omega, by omega, l3, by omega, rfl⟩
    · have eh : hi = lo + 1 := by omega
      subst eh
      rw [← isq_of l0 l3 l4] at k
      exact k
theorem sqi {f n : Int} (h : 0 ≤ f) : f ^ (2 : Int).toNat = f * f := by
  show f ^ 2 = f * f
  rw [Int.pow_succ, Int.pow_succ, Int.pow_zero, Int.one_mul]
theorem eq_int (i j : Int) : eqD (.int i) (.int j) = decide (i = j) := by
  show (i == j) = _
  rw [Bool.eq_iff_iff]
  simp
theorem ok_int (i : Int) : okD (.int i) := ⟨rfl, rfl⟩
theorem bits_lt (n : Int) : n.natAbs < 2 ^ Builtin.Int.intBits n := by
  unfold Builtin.Int.intBits
  split
  · rename_i h
    have : n = 0 := by simpa using h
    subst this
    decide
  · rename_i h
    have h0 : n.natAbs ≠ 0 := by
      intro z
      apply h
      have : n = 0 := by omega
      rw [this]
      rfl
    exact (Nat.log2_lt h0).mp (Nat.lt_succ_self _)
theorem whole_root_spec {n : Int} {m : Nat} {S : Sto} {Q : DK} {E : EK} (h0 : 0 ≤ n) (hs : sm m n) (hm : m ≤ 17000) (k : Q (.int (isq n.toNat)) S) : m_whole_root [.int n] S Q E := by
  unfold m_whole_root t_whole_root
  simp only [eq_int, fnD, sNx, sSeq, sRet, sRetN, sDrop, sIf, sBrk, sCnt, sAsg, sPar, sAug, sSub, setD, sThru, asgT, asgL, itemsOf, vr, cn, dTwo, tbl, ttr, truD_bl, truD_int, truD_non, truD_tup, truD_lst, truD_str, truD_ref, tAndD, tOrD, tNotD, vOf, eIf, vNot, dNeg, fAdd_int, fAdd_tup, fSub, fMul, fDiv, fMod, fPow, fShl, fLt, fLe, fGt, fGe, fEq, fNe, fIx_tup, fIx_lst, fIx_ref, aNil, aCons, dTup, dLst, dLstR, dB, bAbs, bLen_tup, bLen_lst, bLen_ref, bMax, bMin, bInt_int, bInt_bl, dBits, dCall, iVal, iR1, iR2, List.map_cons, List.map_nil, List.length_cons, List.length_nil, List.replicate, List.cons_append, List.nil_append, List.append_nil, List.set, List.getElem?_cons_zero, List.getElem?_cons_succ, List.getElem?_nil, atI_0, atI_1, atI_2, ix20, ix21, sup_same, Nat.reduceAdd, Nat.reduceSub, Nat.succ_eq_add_one, decide_eq_true_eq, Bool.not_eq_true', decide_eq_false_iff_not, true_and, and_true, Bool.true_eq_false, Bool.false_eq_true, if_true, if_false, reduceCtorEq]
  refine ⟨ok_int _, ok_int _, ?_⟩
  split
  · rename_i h
    subst h
    exact k
  · rename_i hn
    have hb := hs.bits
    have hlt := bits_lt n
    refine ⟨⟨by decide, by decide⟩, ⟨?_, ?_, by decide⟩, ?_⟩
    · exact fdiv_nonneg (by omega) (by omega)
    · rw [Int.fdiv_eq_ediv_of_nonneg _ (by omega)]
      omega
    · have e0 : ((((Builtin.Int.intBits n : Nat) : Int) + 1).fdiv 2).toNat = (Builtin.Int.intBits n + 1) / 2 := by
        rw [Int.fdiv_eq_ediv_of_nonneg _ (by omega)]
        omega
      rw [e0, Int.one_mul]
      generalize hh : (Builtin.Int.intBits n + 1) / 2 = h at *
      have hp : n < 2 ^ h * 2 ^ h := by
        have : n.natAbs < 2 ^ (h + h) := Nat.lt_of_lt_of_le hlt (Nat.pow_le_pow_right (by decide) (by omega))
        rw [Nat.pow_add] at this
        have e : n = (n.natAbs : Int) := by omega
        rw [e]
        exact_mod_cast this
      have hpp : (0 : Int) < 2 ^ h := Int.pow_pos (by decide)
      have hps : sm (m / 2 + 2) (2 ^ h) := by
        unfold sm
        rw [Int.natAbs_pow]
        exact Nat.pow_lt_pow_right (by decide) (by omega)
      have hnn : 0 < n := by omega
      clear hlt e0
      refine ⟨fun j e s => ∃ f : Int, e = [some (.int n), some (.int f)] ∧ s = S ∧ 0 < f ∧ n < (f + 1) * (f + 1) ∧ sm (m / 2 + 2) f ∧ j = f.toNat, ⟨_, 2 ^ h, rfl, rfl, hpp, ?_, hps, rfl⟩, ?_⟩
      · have : (2 ^ h + 1 : Int) * (2 ^ h + 1) = 2 ^ h * 2 ^ h + 2 * 2 ^ h + 1 := by grind
        omega
      · rintro j e s ⟨f, rfl, rfl, f0, f1, f2, rfl⟩
        simp only [fnD, sNx, sSeq, sRet, sRetN, sDrop, sIf, sBrk, sCnt, sAsg, sPar, sAug, sSub, setD, sThru, asgT, asgL, itemsOf, vr, cn, dTwo, tbl, ttr, truD_bl, truD_int, truD_non, truD_tup, truD_lst, truD_str, truD_ref, tAndD, tOrD, tNotD, vOf, eIf, vNot, dNeg, fAdd_int, fAdd_tup, fSub, fMul, fDiv, fMod, fPow, fShl, fLt, fLe, fGt, fGe, fEq, fNe, fIx_tup, fIx_lst, fIx_ref, aNil, aCons, dTup, dLst, dLstR, dB, bAbs, bLen_tup, bLen_lst, bLen_ref, bMax, bMin, bInt_int, bInt_bl, dBits, dCall, iVal, iR1, iR2, List.map_cons, List.map_nil, List.length_cons, List.length_nil, List.replicate, List.cons_append, List.nil_append, List.append_nil, List.set, List.getElem?_cons_zero, List.getElem?_cons_succ, List.getElem?_nil, atI_0, atI_1, atI_2, ix20, ix21, sup_same, Nat.reduceAdd, Nat.reduceSub, Nat.succ_eq_add_one, decide_eq_true_eq, Bool.not_eq_true', decide_eq_false_iff_not, true_and, and_true, Bool.true_eq_false, Bool.false_eq_true, if_true, if_false, reduceCtorEq]
        refine ⟨f2.cmul f2 (by omega), ?_⟩
        split
        · rename_i hc
          refine ⟨f2.cdiv (by omega) (by omega), ⟨by decide, by decide⟩, ?_⟩
          rw [Int.fdiv_eq_ediv_of_nonneg n (by omega), Int.fdiv_eq_ediv_of_nonneg _ (by omega)]
          have d1 : n / f * f ≤ n := Int.ediv_mul_le n (by omega)
          have d2 : n < (n / f + 1) * f := Int.lt_ediv_add_one_mul_self n f0
          have d0 : 0 ≤ n / f := Int.ediv_nonneg h0 (by omega)
          generalize n / f = g at *
          have d3 : g < f := by
            rcases Int.lt_or_le g f with z | z
            · exact z
            · have := Int.mul_le_mul_of_nonneg_right z (show 0 ≤ f by omega)
              omega
          obtain ⟨u, hu⟩ : ∃ u, u = (f + g) / 2 := ⟨_, rfl⟩
          rw [← hu]
          have u1 : f + g ≤ 2 * u + 1 := by omega
          have u2 : u < f := by omega
          have u3 : n < (u + 1) * (u + 1) := by
            have a1 : (f + g + 1) * f ≤ (2 * (u + 1)) * f := Int.mul_le_mul_of_nonneg_right (by omega) (by omega)
            have a2 : 0 ≤ (u + 1 - f) * (u + 1 - f) := by
              rcases Int.le_total 0 (u + 1 - f) with z | z
              · exact Int.mul_nonneg z z
              · exact Int.mul_nonneg_of_nonpos_of_nonpos z z
            have a3 : (f + g + 1) * f = f * f + (g + 1) * f := by grind
            have a4 : (u + 1) * (u + 1) = 2 * (u + 1) * f - f * f + (u + 1 - f) * (u + 1 - f) := by grind
            omega
          have u4 : 0 < u := by
            rcases Int.lt_or_le 0 u with z | z
            · exact z
            · have : u = 0 := by omega
              rw [this] at u3
              omega
          exact ⟨u.toNat, by omega, u, rfl, u4, u3, by unfold sm at *; omega, rfl⟩
        · rename_i hc
          rw [← isq_of (by omega) (by omega) f1] at k
          exact k
theorem isq_sm {n : Int} {m : Nat} (h0 : 0 ≤ n) (h : sm m n) : sm m (isq n.toNat) := by
  have := isq_le n.toNat
  unfold sm at *
  omega
theorem is_square_spec {n : Int} {m : Nat} {S : Sto} {Q : DK} {E : EK} (h0 : 0 ≤ n) (hs : sm m n) (hm : m ≤ 17000) (k : Q (.bl (decide ((isq n.toNat : Int) * isq n.toNat = n))) S) : m_is_square [.int n] S Q E := by
  unfold m_is_square t_is_square
  simp only [fnD, sNx, sSeq, sRet, sRetN, sDrop, sIf, sBrk, sCnt, sAsg, sPar, sAug, sSub, setD, sThru, asgT, asgL, itemsOf, vr, cn, dTwo, tbl, ttr, truD_bl, truD_int, truD_non, truD_tup, truD_lst, truD_str, truD_ref, tAndD, tOrD, tNotD, vOf, eIf, vNot, dNeg, fAdd_int, fAdd_tup, fSub, fMul, fDiv, fMod, fPow, fShl, fLt, fLe, fGt, fGe, fEq, fNe, fIx_tup, fIx_lst, fIx_ref, aNil, aCons, dTup, dLst, dLstR, dB, bAbs, bLen_tup, bLen_lst, bLen_ref, bMax, bMin, bInt_int, bInt_bl, dBits, dCall, iVal, iR1, iR2, List.map_cons, List.map_nil, List.length_cons, List.length_nil, List.replicate, List.cons_append, List.nil_append, List.append_nil, List.set, List.getElem?_cons_zero, List.getElem?_cons_succ, List.getElem?_nil, atI_0, atI_1, atI_2, ix20, ix21, sup_same, Nat.reduceAdd, Nat.reduceSub, Nat.succ_eq_add_one, decide_eq_true_eq, Bool.not_eq_true', decide_eq_false_iff_not, true_and, and_true, Bool.true_eq_false, Bool.false_eq_true, if_true, if_false, reduceCtorEq]
  refine whole_root_spec h0 hs hm ?_
  have z := (isq_sm h0 hs).bits
  simp only [eq_int, fnD, sNx, sSeq, sRet, sRetN, sDrop, sIf, sBrk, sCnt, sAsg, sPar, sAug, sSub, setD, sThru, asgT, asgL, itemsOf, vr, cn, dTwo, tbl, ttr, truD_bl, truD_int, truD_non, truD_tup, truD_lst, truD_str, truD_ref, tAndD, tOrD, tNotD, vOf, eIf, vNot, dNeg, fAdd_int, fAdd_tup, fSub, fMul, fDiv, fMod, fPow, fShl, fLt, fLe, fGt, fGe, fEq, fNe, fIx_tup, fIx_lst, fIx_ref, aNil, aCons, dTup, dLst, dLstR, dB, bAbs, bLen_tup, bLen_lst, bLen_ref, bMax, bMin, bInt_int, bInt_bl, dBits, dCall, iVal, iR1, iR2, List.map_cons, List.map_nil, List.length_cons, List.length_nil, List.replicate, List.cons_append, List.nil_append, List.append_nil, List.set, List.getElem?_cons_zero, List.getElem?_cons_succ, List.getElem?_nil, atI_0, atI_1, atI_2, ix20, ix21, sup_same, Nat.reduceAdd, Nat.reduceSub, Nat.succ_eq_add_one, decide_eq_true_eq, Bool.not_eq_true', decide_eq_false_iff_not, true_and, and_true, Bool.true_eq_false, Bool.false_eq_true, if_true, if_false, reduceCtorEq]
  rw [sqi (n := n) (by omega)]
  exact ⟨by decide, by omega, ok_int _, ok_int _, k⟩
end Lb

namespace Lb
open PySem PySem.Spec PyProof.Rows L2 Bl
/-! ### roots of fractions -/
structure Rt where
  b : Rat
  s : Int
  q : Rat
abbrev rt (x : Rt) : D := .tup [fr x.b, .int x.s, fr x.q]
def canon (b : Rat) (s : Int) (q : Rat) : Rt := if s = 0 ∨ q = 0 then ⟨b, 0, 0⟩ else if sqb q then ⟨b + s * sqr q, 0, 0⟩ else ⟨b, s, q⟩
theorem canon_spec' {b q : Rat} {s : Int} {n : Nat} {S : Sto} {Q : DK} {E : EK} (hb : sr n b) (hq : sr n q) (hq0 : 0 ≤ q) (hs : s = -1 ∨ s = 0 ∨ s = 1) (hn : n ≤ 4400) (k : Q (rt (canon b s q)) S) : m_l_canonical [fr b, .int s, fr q] S Q E := by
  unfold m_l_canonical t_l_canonical
  simp only [eq_int, fnD, sNx, sSeq, sRet, sRetN, sDrop, sIf, sBrk, sCnt, sAsg, sPar, sAug, sSub, setD, sThru, asgT, asgL, itemsOf, vr, cn, dTwo, tbl, ttr, truD_bl, truD_int, truD_non, truD_tup, truD_lst, truD_str, truD_ref, tAndD, tOrD, tNotD, vOf, eIf, vNot, dNeg, fAdd_int, fAdd_tup, fSub, fMul, fDiv, fMod, fPow, fShl, fLt, fLe, fGt, fGe, fEq, fNe, fIx_tup, fIx_lst, fIx_ref, aNil, aCons, dTup, dLst, dLstR, dB, bAbs, bLen_tup, bLen_lst, bLen_ref, bMax, bMin, bInt_int, bInt_bl, dBits, dCall, iVal, iR1, iR2, List.map_cons, List.map_nil, List.length_cons, List.length_nil, List.replicate, List.cons_append, List.nil_append, List.append_nil, List.set, List.getElem?_cons_zero, List.getElem?_cons_succ, List.getElem?_nil, atI_0, atI_1, atI_2, ix20, ix21, sup_same, Nat.reduceAdd, Nat.reduceSub, Nat.succ_eq_add_one, decide_eq_true_eq, Bool.not_eq_true', decide_eq_false_iff_not, true_and, and_true, Bool.true_eq_false, Bool.false_eq_true, if_true, if_false, reduceCtorEq]
  have z0 : q.num = 0 ↔ q = 0 := Rat.num_eq_zero
  have hn0 : 0 ≤ q.num := Rat.num_nonneg.mpr hq0
  refine ⟨ok_int _, ok_int _, ?_⟩
  unfold canon at k
  split
  · rename_i h
    rw [if_pos (.inl h)] at k
    exact ⟨by decide, by decide, k⟩
  · rename_i h
    refine ⟨ok_int _, ok_int _, ?_⟩
    split
    · rename_i h2
      rw [if_pos (.inr (z0.mp h2))] at k
      exact ⟨by decide, by decide, k⟩
    · rename_i h2
      rw [if_neg (fun z => z.elim h fun z => h2 (z0.mpr z))] at k
      refine root_of_spec hn0 hq.n (by omega) (root_of_spec (by omega) hq.d (by omega) ?_)
      have s1 := isq_sm hn0 hq.n
      have s2 : sm n (isq q.den) := isq_sm (n := q.den) (by omega) hq.d
      simp only [eq_int, fnD, sNx, sSeq, sRet, sRetN, sDrop, sIf, sBrk, sCnt, sAsg, sPar, sAug, sSub, setD, sThru, asgT, asgL, itemsOf, vr, cn, dTwo, tbl, ttr, truD_bl, truD_int, truD_non, truD_tup, truD_lst, truD_str, truD_ref, tAndD, tOrD, tNotD, vOf, eIf, vNot, dNeg, fAdd_int, fAdd_tup, fSub, fMul, fDiv, fMod, fPow, fShl, fLt, fLe, fGt, fGe, fEq, fNe, fIx_tup, fIx_lst, fIx_ref, aNil, aCons, dTup, dLst, dLstR, dB, bAbs, bLen_tup, bLen_lst, bLen_ref, bMax, bMin, bInt_int, bInt_bl, dBits, dCall, iVal, iR1, iR2, List.map_cons, List.map_nil, List.length_cons, List.length_nil, List.replicate, List.cons_append, List.nil_append, List.append_nil, List.set, List.getElem?_cons_zero, List.getElem?_cons_succ, List.getElem?_nil, atI_0, atI_1, atI_2, ix20, ix21, sup_same, Nat.reduceAdd, Nat.reduceSub, Nat.succ_eq_add_one, decide_eq_true_eq, Bool.not_eq_true', decide_eq_false_iff_not, true_and, and_true, Bool.true_eq_false, Bool.false_eq_true, if_true, if_false, reduceCtorEq]
      rw [Int.toNat_natCast]
      refine ⟨s1.cmul s1 (by omega), ok_int _, ok_int _, ?_⟩
      split
      · rename_i h3
        refine ⟨s2.cmul s2 (by omega), ok_int _, ok_int _, ?_⟩
        split
        · rename_i h4
          rw [if_pos ⟨h3, h4⟩] at k
          have ss : sm 1 s := by unfold sm; omega
          refine ⟨ss.cmul s1 (by omega), by decide, lplus_spec (n := n + 1) (r := b + s * sqr q) (den_ne b) (isq_den q) (hb.n.mono (by omega)) (hb.d.mono (by omega)) ((ss.mul s1).mono (by omega)) (s2.mono (by omega)) (by omega) ?_ ⟨by decide, by decide, k⟩⟩
          have e1 := num_den b
          have e2 := Rat.div_mul_cancel (a := ((isq q.num.toNat : Int) : Rat)) (castne (isq_den q))
          have e3 : sqr q * ((isq q.den : Int) : Rat) = ((isq q.num.toNat : Int) : Rat) := e2
          simp only [Rat.intCast_mul, Rat.intCast_add]
          grind
        · rename_i h4
          rw [if_neg fun z => h4 z.2] at k
          exact ⟨by decide, k⟩
      · rename_i h3
        rw [if_neg fun z => h3 z.1] at k
        exact ⟨by decide, k⟩
/-! ### the program's fractions -/
theorem common_spec {p q : Int} {n : Nat} {S : Sto} {Q : DK} {E : EK} (hp : sm n p) (hq : sm n q) (k : Q (.int (Int.gcd p q)) S) : m_common [.int p, .int q] S Q E := by
  unfold m_common t_common
  simp only [fnD, sNx, sSeq, sRet, sRetN, sDrop, sIf, sBrk, sCnt, sAsg, sPar, sAug, sSub, setD, sThru, asgT, asgL, itemsOf, vr, cn, dTwo, tbl, ttr, truD_bl, truD_int, truD_non, truD_tup, truD_lst, truD_str, truD_ref, tAndD, tOrD, tNotD, vOf, eIf, vNot, dNeg, fAdd_int, fAdd_tup, fSub, fMul, fDiv, fMod, fPow, fShl, fLt, fLe, fGt, fGe, fEq, fNe, fIx_tup, fIx_lst, fIx_ref, aNil, aCons, dTup, dLst, dLstR, dB, bAbs, bLen_tup, bLen_lst, bLen_ref, bMax, bMin, bInt_int, bInt_bl, dBits, dCall, iVal, iR1, iR2, List.map_cons, List.map_nil, List.length_cons, List.length_nil, List.replicate, List.cons_append, List.nil_append, List.append_nil, List.set, List.getElem?_cons_zero, List.getElem?_cons_succ, List.getElem?_nil, atI_0, atI_1, atI_2, ix20, ix21, sup_same, Nat.reduceAdd, Nat.reduceSub, Nat.succ_eq_add_one, decide_eq_true_eq, Bool.not_eq_true', decide_eq_false_iff_not, true_and, and_true, Bool.true_eq_false, Bool.false_eq_true, if_true, if_false, reduceCtorEq]
  refine ⟨fun m e s => ∃ x y : Int, e = [some (.int x), some (.int y)] ∧ s = S ∧ 0 ≤ x ∧ 0 ≤ y ∧ (Int.gcd x y) = Int.gcd p q ∧ m = y.toNat, ⟨_, _, _, rfl, rfl, by split <;> omega, by split <;> omega, ?_, rfl⟩, ?_⟩
  · split <;> split <;> simp only [Int.neg_gcd, Int.gcd_neg]
  · rintro m e s ⟨x, y, rfl, rfl, hx, hy, hg, rfl⟩
    simp only [eq_int, fnD, sNx, sSeq, sRet, sRetN, sDrop, sIf, sBrk, sCnt, sAsg, sPar, sAug, sSub, setD, sThru, asgT, asgL, itemsOf, vr, cn, dTwo, tbl, ttr, truD_bl, truD_int, truD_non, truD_tup, truD_lst, truD_str, truD_ref, tAndD, tOrD, tNotD, vOf, eIf, vNot, dNeg, fAdd_int, fAdd_tup, fSub, fMul, fDiv, fMod, fPow, fShl, fLt, fLe, fGt, fGe, fEq, fNe, fIx_tup, fIx_lst, fIx_ref, aNil, aCons, dTup, dLst, dLstR, dB, bAbs, bLen_tup, bLen_lst, bLen_ref, bMax, bMin, bInt_int, bInt_bl, dBits, dCall, iVal, iR1, iR2, List.map_cons, List.map_nil, List.length_cons, List.length_nil, List.replicate, List.cons_append, List.nil_append, List.append_nil, List.set, List.getElem?_cons_zero, List.getElem?_cons_succ, List.getElem?_nil, atI_0, atI_1, atI_2, ix20, ix21, sup_same, Nat.reduceAdd, Nat.reduceSub, Nat.succ_eq_add_one, decide_eq_true_eq, Bool.not_eq_true', decide_eq_false_iff_not, true_and, and_true, Bool.true_eq_false, Bool.false_eq_true, if_true, if_false, reduceCtorEq]
    refine ⟨ok_int _, ok_int _, ?_⟩
    by_cases h : y = 0
    · subst h
      rw [Int.gcd_zero_right] at hg
      have : x = ((Int.gcd p q : Nat) : Int) := by omega
      rw [← this] at k
      simpa using k
    · obtain ⟨g1, g2, g3⟩ := gcd_step (show 0 < y by omega) hx
      rw [if_pos (by simpa using h)]
      exact ⟨h, (x.fmod y).toNat, by omega, y, _, rfl, hy, g1, by rw [Int.gcd_comm, g3, Int.gcd_comm]; exact hg, rfl⟩
theorem frac_spec {p q : Int} {n : Nat} {r : Rat} {S : Sto} {Q : DK} {E : EK} (hq : q ≠ 0) (hp : sm n p) (hs : sm n q) (hn : n ≤ 8900) (h : r * q = p) (k : Q (fr r) S) : m_frac [.int p, .int q] S Q E := by
  unfold m_frac t_frac
  simp only [fnD, sNx, sSeq, sRet, sRetN, sDrop, sIf, sBrk, sCnt, sAsg, sPar, sAug, sSub, setD, sThru, asgT, asgL, itemsOf, vr, cn, dTwo, tbl, ttr, truD_bl, truD_int, truD_non, truD_tup, truD_lst, truD_str, truD_ref, tAndD, tOrD, tNotD, vOf, eIf, vNot, dNeg, fAdd_int, fAdd_tup, fSub, fMul, fDiv, fMod, fPow, fShl, fLt, fLe, fGt, fGe, fEq, fNe, fIx_tup, fIx_lst, fIx_ref, aNil, aCons, dTup, dLst, dLstR, dB, bAbs, bLen_tup, bLen_lst, bLen_ref, bMax, bMin, bInt_int, bInt_bl, dBits, dCall, iVal, iR1, iR2, List.map_cons, List.map_nil, List.length_cons, List.length_nil, List.replicate, List.cons_append, List.nil_append, List.append_nil, List.set, List.getElem?_cons_zero, List.getElem?_cons_succ, List.getElem?_nil, atI_0, atI_1, atI_2, ix20, ix21, sup_same, Nat.reduceAdd, Nat.reduceSub, Nat.succ_eq_add_one, decide_eq_true_eq, Bool.not_eq_true', decide_eq_false_iff_not, true_and, and_true, Bool.true_eq_false, Bool.false_eq_true, if_true, if_false, reduceCtorEq]
  obtain ⟨t, et, t0, e1, e2⟩ := low_of hq h
  have es : q.fdiv (if q < 0 then -q else q) = q.sign := by
    split
    · rename_i hq0
      rw [Int.sign_eq_neg_one_of_neg hq0]
      have := fdiv_mul (a := -1) (t := -q) (by omega)
      rw [← this]
      congr 1
      omega
    · rename_i hq0
      rw [Int.sign_eq_one_of_pos (by omega), Int.fdiv_self (by omega)]
  rw [es]
  refine ⟨hs.abs.cdiv (by split <;> omega) (by omega), common_spec hp hs ?_⟩
  simp only [fnD, sNx, sSeq, sRet, sRetN, sDrop, sIf, sBrk, sCnt, sAsg, sPar, sAug, sSub, setD, sThru, asgT, asgL, itemsOf, vr, cn, dTwo, tbl, ttr, truD_bl, truD_int, truD_non, truD_tup, truD_lst, truD_str, truD_ref, tAndD, tOrD, tNotD, vOf, eIf, vNot, dNeg, fAdd_int, fAdd_tup, fSub, fMul, fDiv, fMod, fPow, fShl, fLt, fLe, fGt, fGe, fEq, fNe, fIx_tup, fIx_lst, fIx_ref, aNil, aCons, dTup, dLst, dLstR, dB, bAbs, bLen_tup, bLen_lst, bLen_ref, bMax, bMin, bInt_int, bInt_bl, dBits, dCall, iVal, iR1, iR2, List.map_cons, List.map_nil, List.length_cons, List.length_nil, List.replicate, List.cons_append, List.nil_append, List.append_nil, List.set, List.getElem?_cons_zero, List.getElem?_cons_succ, List.getElem?_nil, atI_0, atI_1, atI_2, ix20, ix21, sup_same, Nat.reduceAdd, Nat.reduceSub, Nat.succ_eq_add_one, decide_eq_true_eq, Bool.not_eq_true', decide_eq_false_iff_not, true_and, and_true, Bool.true_eq_false, Bool.false_eq_true, if_true, if_false, reduceCtorEq]
  have g1 : sm n (Int.gcd p q) := by
    have : Int.gcd p q ≤ q.natAbs := Nat.le_of_dvd (by omega) (Nat.gcd_dvd_right ..)
    unfold sm at *
    omega
  have g2 : sm 1 q.sign := by
    unfold sm
    rcases Int.lt_or_gt_of_ne hq with z | z
    · rw [Int.sign_eq_neg_one_of_neg z]; decide
    · rw [Int.sign_eq_one_of_pos z]; decide
  refine ⟨g1.cmul g2 (by omega), ?_⟩
  rw [Int.mul_comm, ← et]
  have ht : sm (n + 1) t := by rw [et]; exact (g2.mul g1).mono (by omega)
  have hd : CDiv' t := ht.cdiv t0 (by omega)
  have d1 : p.fdiv t = r.num := by rw [e1, fdiv_mul t0]
  have d2 : q.fdiv t = r.den := by rw [e2, fdiv_mul t0]
  rw [d1, d2]
  exact ⟨hd, hd, by decide, k⟩
theorem plus_spec {a b c d : Int} {n : Nat} {r : Rat} {S : Sto} {Q : DK} {E : EK} (hb : b ≠ 0) (hd : d ≠ 0) (ha : sm n a) (hb' : sm n b) (hc : sm n c) (hd' : sm n d) (hn : n ≤ 4440) (h : r * (b * d : Int) = (a * d + c * b : Int)) (k : Q (fr r) S) : m_plus [pr a b, pr c d] S Q E := by
  unfold m_plus t_plus
  simp only [fnD, sNx, sSeq, sRet, sRetN, sDrop, sIf, sBrk, sCnt, sAsg, sPar, sAug, sSub, setD, sThru, asgT, asgL, itemsOf, vr, cn, dTwo, tbl, ttr, truD_bl, truD_int, truD_non, truD_tup, truD_lst, truD_str, truD_ref, tAndD, tOrD, tNotD, vOf, eIf, vNot, dNeg, fAdd_int, fAdd_tup, fSub, fMul, fDiv, fMod, fPow, fShl, fLt, fLe, fGt, fGe, fEq, fNe, fIx_tup, fIx_lst, fIx_ref, aNil, aCons, dTup, dLst, dLstR, dB, bAbs, bLen_tup, bLen_lst, bLen_ref, bMax, bMin, bInt_int, bInt_bl, dBits, dCall, iVal, iR1, iR2, List.map_cons, List.map_nil, List.length_cons, List.length_nil, List.replicate, List.cons_append, List.nil_append, List.append_nil, List.set, List.getElem?_cons_zero, List.getElem?_cons_succ, List.getElem?_nil, atI_0, atI_1, atI_2, ix20, ix21, sup_same, Nat.reduceAdd, Nat.reduceSub, Nat.succ_eq_add_one, decide_eq_true_eq, Bool.not_eq_true', decide_eq_false_iff_not, true_and, and_true, Bool.true_eq_false, Bool.false_eq_true, if_true, if_false, reduceCtorEq]
  refine ⟨ha.cmul hd' (by omega), hc.cmul hb' (by omega), hb'.cmul hd' (by omega), ?_⟩
  exact frac_spec (n := n + n + 1) (Int.mul_ne_zero hb hd) ((ha.mul hd').add (hc.mul hb')) ((hb'.mul hd').mono (by omega)) (by omega) h k
theorem times_spec {a b c d : Int} {n : Nat} {r : Rat} {S : Sto} {Q : DK} {E : EK} (hb : b ≠ 0) (hd : d ≠ 0) (ha : sm n a) (hb' : sm n b) (hc : sm n c) (hd' : sm n d) (hn : n ≤ 4440) (h : r * (b * d : Int) = (a * c : Int)) (k : Q (fr r) S) : m_times [pr a b, pr c d] S Q E := by
  unfold m_times t_times
  simp only [fnD, sNx, sSeq, sRet, sRetN, sDrop, sIf, sBrk, sCnt, sAsg, sPar, sAug, sSub, setD, sThru, asgT, asgL, itemsOf, vr, cn, dTwo, tbl, ttr, truD_bl, truD_int, truD_non, truD_tup, truD_lst, truD_str, truD_ref, tAndD, tOrD, tNotD, vOf, eIf, vNot, dNeg, fAdd_int, fAdd_tup, fSub, fMul, fDiv, fMod, fPow, fShl, fLt, fLe, fGt, fGe, fEq, fNe, fIx_tup, fIx_lst, fIx_ref, aNil, aCons, dTup, dLst, dLstR, dB, bAbs, bLen_tup, bLen_lst, bLen_ref, bMax, bMin, bInt_int, bInt_bl, dBits, dCall, iVal, iR1, iR2, List.map_cons, List.map_nil, List.length_cons, List.length_nil, List.replicate, List.cons_append, List.nil_append, List.append_nil, List.set, List.getElem?_cons_zero, List.getElem?_cons_succ, List.getElem?_nil, atI_0, atI_1, atI_2, ix20, ix21, sup_same, Nat.reduceAdd, Nat.reduceSub, Nat.succ_eq_add_one, decide_eq_true_eq, Bool.not_eq_true', decide_eq_false_iff_not, true_and, and_true, Bool.true_eq_false, Bool.false_eq_true, if_true, if_false, reduceCtorEq]
  refine ⟨ha.cmul hc (by omega), hb'.cmul hd' (by omega), ?_⟩
  exact frac_spec (n := n + n) (Int.mul_ne_zero hb hd) (ha.mul hc) (hb'.mul hd') (by omega) h k
theorem plus_fr {a b : Rat} {n : Nat} {S : Sto} {Q : DK} {E : EK} (ha : sr n a) (hb : sr n b) (hn : n ≤ 4440) (k : Q (fr (a + b)) S) : m_plus [fr a, fr b] S Q E :=
  plus_spec (den_ne a) (den_ne b) ha.n ha.d hb.n hb.d hn (by
    have e1 := num_den a
    have e2 := num_den b
    simp only [Rat.intCast_mul, Rat.intCast_add]
    grind) k
theorem times_fr {a b : Rat} {n : Nat} {S : Sto} {Q : DK} {E : EK} (ha : sr n a) (hb : sr n b) (hn : n ≤ 4440) (k : Q (fr (a * b)) S) : m_times [fr a, fr b] S Q E :=
  times_spec (den_ne a) (den_ne b) ha.n ha.d hb.n hb.d hn (by
    have e1 := num_den a
    have e2 := num_den b
    simp only [Rat.intCast_mul, Rat.intCast_add]
    grind) k
theorem sign_of_spec {i : Int} {S : Sto} {Q : DK} {E : EK} (k : Q (.int i.sign) S) : m_sign_of [.int i] S Q E := by
  unfold m_sign_of t_sign_of
  simp only [fnD, sNx, sSeq, sRet, sRetN, sDrop, sIf, sBrk, sCnt, sAsg, sPar, sAug, sSub, setD, sThru, asgT, asgL, itemsOf, vr, cn, dTwo, tbl, ttr, truD_bl, truD_int, truD_non, truD_tup, truD_lst, truD_str, truD_ref, tAndD, tOrD, tNotD, vOf, eIf, vNot, dNeg, fAdd_int, fAdd_tup, fSub, fMul, fDiv, fMod, fPow, fShl, fLt, fLe, fGt, fGe, fEq, fNe, fIx_tup, fIx_lst, fIx_ref, aNil, aCons, dTup, dLst, dLstR, dB, bAbs, bLen_tup, bLen_lst, bLen_ref, bMax, bMin, bInt_int, bInt_bl, dBits, dCall, iVal, iR1, iR2, List.map_cons, List.map_nil, List.length_cons, List.length_nil, List.replicate, List.cons_append, List.nil_append, List.append_nil, List.set, List.getElem?_cons_zero, List.getElem?_cons_succ, List.getElem?_nil, atI_0, atI_1, atI_2, ix20, ix21, sup_same, Nat.reduceAdd, Nat.reduceSub, Nat.succ_eq_add_one, decide_eq_true_eq, Bool.not_eq_true', decide_eq_false_iff_not, true_and, and_true, Bool.true_eq_false, Bool.false_eq_true, if_true, if_false, reduceCtorEq]
  have : ((if 0 < i then 1 else 0) - (if i < 0 then 1 else 0) : Int) = i.sign := by
    rcases Int.lt_trichotomy i 0 with z | z | z
    · rw [Int.sign_eq_neg_one_of_neg z, if_neg (by omega), if_pos z]; rfl
    · subst z; rfl
    · rw [Int.sign_eq_one_of_pos z, if_pos z, if_neg (by omega)]; rfl
  rw [this]
  exact k
theorem root_two {b q : Rat} {s : Int} {n : Nat} {S : Sto} {N : Nd} (hb : sr n b) (hq : sr n q) (hn0 : 0 ≤ q.num) (hs : s = -1 ∨ s = 0 ∨ s = 1) (hn : n ≤ 4400) (k : N.rt (rt ⟨b + s * sqr q, 0, 0⟩) S) :
    (sRet (dTup (aCons (dCall m_plus 2 0 (fun ds _ => ds) (aCons (vr 0) (aCons (dTup (aCons (dTwo (vr 1) (dCall m_whole_root 1 0 (fun ds _ => ds) (aCons (dTwo (vr 2) (cn (.int 0)) fIx) (aNil)) aNil) fMul) (aCons (dCall m_whole_root 1 0 (fun ds _ => ds) (aCons (dTwo (vr 2) (cn (.int 1)) fIx) (aNil)) aNil) (aNil)))) (aNil))) aNil) (aCons (cn (.int 0)) (aCons (cn k_ZERO) (aNil)))))) [some (fr b), some (.int s), some (fr q)] S N := by
  have s1 := isq_sm hn0 hq.n
  have s2 : sm n (isq q.den) := isq_sm (n := q.den) (by omega) hq.d
  have ss : sm 1 s := by unfold sm; omega
  refine ⟨rfl, rfl, whole_root_spec hn0 hq.n (by omega) ⟨ss.cmul s1 (by omega), ?_⟩⟩
  refine ⟨rfl, rfl, whole_root_spec (n := q.den) (by omega) hq.d (by omega) ⟨by show 2 ≤ sizeLine; decide, ?_⟩⟩
  refine ⟨rfl, rfl, ?_⟩
  rw [Int.toNat_natCast]
  refine plus_spec (n := n + 1) (r := b + s * sqr q) (den_ne b) (isq_den q) (hb.n.mono (by omega)) (hb.d.mono (by omega)) ((ss.mul s1).mono (by omega)) (s2.mono (by omega)) (by omega) ?_ ⟨by show 3 ≤ sizeLine; decide, k⟩
  have e1 := num_den b
  have e3 : sqr q * ((isq q.den : Int) : Rat) = ((isq q.num.toNat : Int) : Rat) := Rat.div_mul_cancel (castne (isq_den q))
  simp only [Rat.intCast_mul, Rat.intCast_add]
  grind
theorem root_spec {b q : Rat} {s : Int} {n : Nat} {S : Sto} {Q : DK} {E : EK} (hb : sr n b) (hq : sr n q) (hq0 : 0 ≤ q) (hs : s = -1 ∨ s = 0 ∨ s = 1) (hn : n ≤ 4400) (k : Q (rt (canon b s q)) S) : m_root [fr b, .int s, fr q] S Q E := by
  have z0 : q.num = 0 ↔ q = 0 := Rat.num_eq_zero
  have hn0 : 0 ≤ q.num := Rat.num_nonneg.mpr hq0
  have two := fun N => @root_two b q s n S N hb hq hn0 hs hn
  unfold m_root t_root
  revert two
  generalize sRet (dTup (aCons (dCall m_plus 2 0 (fun ds _ => ds) (aCons (vr 0) (aCons (dTup (aCons (dTwo (vr 1) (dCall m_whole_root 1 0 (fun ds _ => ds) (aCons (dTwo (vr 2) (cn (.int 0)) fIx) (aNil)) aNil) fMul) (aCons (dCall m_whole_root 1 0 (fun ds _ => ds) (aCons (dTwo (vr 2) (cn (.int 1)) fIx) (aNil)) aNil) (aNil)))) (aNil))) aNil) (aCons (cn (.int 0)) (aCons (cn k_ZERO) (aNil))))) = R2
  intro two
  unfold canon at k
  refine ⟨rfl, ?_⟩
  show if decide (q.num < 0) = true then _ else _
  rw [if_neg (by simpa using hn0)]
  refine ⟨ok_int _, ok_int _, ?_⟩
  rw [eq_int]
  show if decide (s = 0) = true then _ else _
  by_cases h : s = 0
  · rw [if_pos (decide_eq_true h)]
    rw [if_pos (.inl h)] at k
    exact ⟨by show 3 ≤ sizeLine; decide, k⟩
  · rw [if_neg (by simpa using h)]
    refine ⟨ok_int _, ok_int _, ?_⟩
    rw [eq_int]
    show if decide (q.num = 0) = true then _ else _
    by_cases h2 : q.num = 0
    · rw [if_pos (decide_eq_true h2)]
      rw [if_pos (.inr (z0.mp h2))] at k
      exact ⟨by show 3 ≤ sizeLine; decide, k⟩
    · rw [if_neg (by simpa using h2)]
      rw [if_neg (fun z => z.elim h fun z => h2 (z0.mpr z))] at k
      refine ⟨rfl, rfl, is_square_spec hn0 hq.n (by omega) ?_⟩
      show if decide _ = true then _ else _
      by_cases h3 : (isq q.num.toNat : Int) * isq q.num.toNat = q.num
      · rw [if_pos (decide_eq_true h3)]
        refine ⟨rfl, rfl, is_square_spec (n := q.den) (by omega) hq.d (by omega) ?_⟩
        rw [Int.toNat_natCast]
        show if decide _ = true then _ else _
        by_cases h4 : (isq q.den : Int) * isq q.den = q.den
        · rw [if_pos (decide_eq_true h4)]
          rw [if_pos ⟨h3, h4⟩] at k
          exact two _ k
        · rw [if_neg (by simpa using h4)]
          rw [if_neg fun z => h4 z.2] at k
          exact ⟨by show 3 ≤ sizeLine; decide, k⟩
      · rw [if_neg (by simpa using h3)]
        rw [if_neg fun z => h3 z.1] at k
        exact ⟨by show 3 ≤ sizeLine; decide, k⟩
theorem num_sign (r : Rat) : r.num.sign = -1 ∨ r.num.sign = 0 ∨ r.num.sign = 1 := by
  rcases Int.lt_trichotomy r.num 0 with z | z | z
  · rw [Int.sign_eq_neg_one_of_neg z]; simp
  · rw [z]; simp
  · rw [Int.sign_eq_one_of_pos z]; simp
theorem sign_mul {a b : Int} (h : a = -1 ∨ a = 0 ∨ a = 1) (k : b = -1 ∨ b = 0 ∨ b = 1) : a * b = -1 ∨ a * b = 0 ∨ a * b = 1 := by
  rcases h with h | h | h <;> rcases k with k | k | k <;> subst h <;> subst k <;> decide
theorem scaled_spec {x : Rt} {y : Rat} {n m : Nat} {S : Sto} {Q : DK} {E : EK} (hb : sr n x.b) (hq : sr n x.q) (hy : sr m y) (hq0 : 0 ≤ x.q) (hs : x.s = -1 ∨ x.s = 0 ∨ x.s = 1) (hn : n + 2 * m ≤ 4400) (k : Q (rt (canon (x.b * y) (x.s * y.num.sign) (x.q * (y * y)))) S) : m_scaled [rt x, fr y] S Q E := by
  unfold m_scaled t_scaled
  refine ⟨rfl, ?_⟩
  have h1 : sm 2 x.s := by unfold sm; omega
  have h2 : sm 2 y.num.sign := by have := num_sign y; unfold sm; omega
  have hy2 := hy.mul hy
  refine ⟨rfl, rfl, times_fr (n := n + m) (hb.mono (by omega)) (hy.mono (by omega)) (by omega) ?_⟩
  refine ⟨rfl, rfl, sign_of_spec ⟨h1.cmul h2 (by decide), ?_⟩⟩
  refine ⟨rfl, rfl, times_fr hy hy (by omega) ?_⟩
  refine ⟨rfl, rfl, times_fr (n := n + 2 * m) (hq.mono (by omega)) (hy2.mono (by omega)) (by omega) ?_⟩
  refine ⟨rfl, rfl, ?_⟩
  exact root_spec (n := n + 2 * m) ((hb.mul hy).mono (by omega)) ((hq.mul hy2).mono (by omega)) (Rat.mul_nonneg hq0 (sq_nonneg y)) (sign_mul hs (num_sign y)) (by omega) k
theorem vr_go {i : Nat} {env : Ev} {d : D} {S : Sto} {Q : DK} {E : EK} (h : env[i]? = some (some d)) (k : Q d S) : vr i env S Q E := by
  unfold vr
  rw [h]
  exact k
theorem moved_spec {x : Rt} {y : Rat} {n : Nat} {S : Sto} {Q : DK} {E : EK} (hb : sr n x.b) (hy : sr n y) (hn : n ≤ 4440) (k : Q (rt ⟨x.b + y, x.s, x.q⟩) S) : m_moved [rt x, fr y] S Q E := by
  unfold m_moved t_moved
  refine ⟨rfl, ?_⟩
  exact ⟨rfl, rfl, plus_fr hb hy (by omega) ⟨by show 3 ≤ sizeLine; decide, k⟩⟩
/-! ### the script's cells -/
theorem cell_spec {ns : List Int} {i : Int} {S : Sto} {Q : DK} {E : EK} (h : 0 ≤ i) (k : ∀ c : Int, Q (.int c) S) : m_l_cell_at [.lst (ns.map D.int), .int i] S Q E := by
  unfold m_l_cell_at t_l_cell_at
  simp only [fnD, sNx, sSeq, sRet, sRetN, sDrop, sIf, sBrk, sCnt, sAsg, sPar, sAug, sSub, setD, sThru, asgT, asgL, itemsOf, vr, cn, dTwo, tbl, ttr, truD_bl, truD_int, truD_non, truD_tup, truD_lst, truD_str, truD_ref, tAndD, tOrD, tNotD, vOf, eIf, vNot, dNeg, fAdd_int, fAdd_tup, fSub, fMul, fDiv, fMod, fPow, fShl, fLt, fLe, fGt, fGe, fEq, fNe, fIx_tup, fIx_lst, fIx_ref, aNil, aCons, dTup, dLst, dLstR, dB, bAbs, bLen_tup, bLen_lst, bLen_ref, bMax, bMin, bInt_int, bInt_bl, dBits, dCall, iVal, iR1, iR2, List.map_cons, List.map_nil, List.length_cons, List.length_nil, List.replicate, List.cons_append, List.nil_append, List.append_nil, List.set, List.getElem?_cons_zero, List.getElem?_cons_succ, List.getElem?_nil, atI_0, atI_1, atI_2, ix20, ix21, sup_same, Nat.reduceAdd, Nat.reduceSub, Nat.succ_eq_add_one, decide_eq_true_eq, Bool.not_eq_true', decide_eq_false_iff_not, true_and, and_true, Bool.true_eq_false, Bool.false_eq_true, if_true, if_false, reduceCtorEq]
  rw [List.length_map]
  split
  · rename_i hi
    have e : atI (ns.map D.int) i = some (.int (ns.getD i.toNat 0)) := by
      have : i = (i.toNat : Int) := by omega
      conv => lhs; rw [this]
      refine atI_nat ?_
      rw [List.getElem?_map, List.getD_eq_getElem?_getD, List.getElem?_eq_getElem (by omega)]
      rfl
    simp only [e, fnD, sNx, sSeq, sRet, sRetN, sDrop, sIf, sBrk, sCnt, sAsg, sPar, sAug, sSub, setD, sThru, asgT, asgL, itemsOf, vr, cn, dTwo, tbl, ttr, truD_bl, truD_int, truD_non, truD_tup, truD_lst, truD_str, truD_ref, tAndD, tOrD, tNotD, vOf, eIf, vNot, dNeg, fAdd_int, fAdd_tup, fSub, fMul, fDiv, fMod, fPow, fShl, fLt, fLe, fGt, fGe, fEq, fNe, fIx_tup, fIx_lst, fIx_ref, aNil, aCons, dTup, dLst, dLstR, dB, bAbs, bLen_tup, bLen_lst, bLen_ref, bMax, bMin, bInt_int, bInt_bl, dBits, dCall, iVal, iR1, iR2, List.map_cons, List.map_nil, List.length_cons, List.length_nil, List.replicate, List.cons_append, List.nil_append, List.append_nil, List.set, List.getElem?_cons_zero, List.getElem?_cons_succ, List.getElem?_nil, atI_0, atI_1, atI_2, ix20, ix21, sup_same, Nat.reduceAdd, Nat.reduceSub, Nat.succ_eq_add_one, decide_eq_true_eq, Bool.not_eq_true', decide_eq_false_iff_not, true_and, and_true, Bool.true_eq_false, Bool.false_eq_true, if_true, if_false, reduceCtorEq]
    exact k _
  · exact k _
theorem forD_ints {g : Tg} {b : TSd} {N : Nd} (P : Nat → Ev → Sto → Prop) {n : Nat} {lo : Int} (turn : ∀ i env S, i < n → P i env S → ∃ e1, asgT S g (.int (lo + i)) env = some e1 ∧ ∀ N' : Nd, (∀ e s, P (i + 1) e s → N'.nx e s) → (∀ e s, P (i + 1) e s → N'.ct e s) → N'.rt = N.rt → N'.bk = N.nx → N'.ex = N.ex → b e1 S N') (fin : ∀ env S, P n env S → N.nx env S) : ∀ (m : Nat) (i : Nat) {env : Ev} {S : Sto}, i + m = n → P i env S → forD g b ((List.range' i m).map fun i : Nat => D.int (lo + i)) env S N
  | 0, i, env, S, hi, h => by
    have : i = n := by omega
    subst this
    exact fin _ _ h
  | m + 1, i, env, S, hi, h => by
    obtain ⟨e1, ea, hb⟩ := turn i env S (by omega) h
    rw [List.range'_succ, List.map_cons]
    unfold forD
    rw [ea]
    exact hb _ (fun e s q => forD_ints P turn fin m (i + 1) (by omega) q) (fun e s q => forD_ints P turn fin m (i + 1) (by omega) q) rfl rfl rfl
theorem forD_rng {g : Tg} {b : TSd} {N : Nd} (P : Nat → Ev → Sto → Prop) {n : Nat} {lo : Int} {env : Ev} {S : Sto} (h : P 0 env S)
    (turn : ∀ i env S, i < n → P i env S → ∃ e1, asgT S g (.int (lo + i)) env = some e1 ∧ ∀ N' : Nd, (∀ e s, P (i + 1) e s → N'.nx e s) → (∀ e s, P (i + 1) e s → N'.ct e s) → N'.rt = N.rt → N'.bk = N.nx → N'.ex = N.ex → b e1 S N') (fin : ∀ env S, P n env S → N.nx env S) : forD g b (rngD lo n) env S N := by
  unfold rngD
  rw [List.range_eq_range']
  exact forD_ints P turn fin n 0 (by omega) h
theorem bag_spec {ns : List Int} {i : Int} {S : Sto} {Q : DK} {E : EK} (h : 0 ≤ i) (h2 : i < 10000) (k : ∀ a S', S a = none → Bg S' a → Fr S S' a → Q (.ref a) S') : m_l_bag [.lst (ns.map D.int), .int i] S Q E := by
  unfold m_l_bag t_l_bag
  simp only [fnD, sNx, sSeq, sRet, sRetN, sDrop, sIf, sBrk, sCnt, sAsg, sPar, sAug, sSub, setD, sThru, asgT, asgL, itemsOf, vr, cn, dTwo, tbl, ttr, truD_bl, truD_int, truD_non, truD_tup, truD_lst, truD_str, truD_ref, tAndD, tOrD, tNotD, vOf, eIf, vNot, dNeg, fAdd_int, fAdd_tup, fSub, fMul, fDiv, fMod, fPow, fShl, fLt, fLe, fGt, fGe, fEq, fNe, fIx_tup, fIx_lst, fIx_ref, aNil, aCons, dTup, dLst, dLstR, dB, bAbs, bLen_tup, bLen_lst, bLen_ref, bMax, bMin, bInt_int, bInt_bl, dBits, dCall, iVal, iR1, iR2, List.map_cons, List.map_nil, List.length_cons, List.length_nil, List.replicate, List.cons_append, List.nil_append, List.append_nil, List.set, List.getElem?_cons_zero, List.getElem?_cons_succ, List.getElem?_nil, atI_0, atI_1, atI_2, ix20, ix21, sup_same, Nat.reduceAdd, Nat.reduceSub, Nat.succ_eq_add_one, decide_eq_true_eq, Bool.not_eq_true', decide_eq_false_iff_not, true_and, and_true, Bool.true_eq_false, Bool.false_eq_true, if_true, if_false, reduceCtorEq]
  refine ⟨by decide, cell_spec h fun c => ?_⟩
  refine ⟨(sm.of (n := 13) (by decide)).cmul (sm.of (n := 14) (by omega)) (by decide), ?_⟩
  unfold sFor
  simp only [fnD, sNx, sSeq, sRet, sRetN, sDrop, sIf, sBrk, sCnt, sAsg, sPar, sAug, sSub, setD, sThru, asgT, asgL, itemsOf, vr, cn, dTwo, tbl, ttr, truD_bl, truD_int, truD_non, truD_tup, truD_lst, truD_str, truD_ref, tAndD, tOrD, tNotD, vOf, eIf, vNot, dNeg, fAdd_int, fAdd_tup, fSub, fMul, fDiv, fMod, fPow, fShl, fLt, fLe, fGt, fGe, fEq, fNe, fIx_tup, fIx_lst, fIx_ref, aNil, aCons, dTup, dLst, dLstR, dB, bAbs, bLen_tup, bLen_lst, bLen_ref, bMax, bMin, bInt_int, bInt_bl, dBits, dCall, iVal, iR1, iR2, List.map_cons, List.map_nil, List.length_cons, List.length_nil, List.replicate, List.cons_append, List.nil_append, List.append_nil, List.set, List.getElem?_cons_zero, List.getElem?_cons_succ, List.getElem?_nil, atI_0, atI_1, atI_2, ix20, ix21, sup_same, Nat.reduceAdd, Nat.reduceSub, Nat.succ_eq_add_one, decide_eq_true_eq, Bool.not_eq_true', decide_eq_false_iff_not, true_and, and_true, Bool.true_eq_false, Bool.false_eq_true, if_true, if_false, reduceCtorEq]
  refine ⟨by decide, by decide, ?_⟩
  refine forD_rng (fun j e s => ∃ mix : Int, ∃ o5 o6, e = [some (.lst (ns.map D.int)), some (.int i), some (.tup [.int 99991, .int 99971, .int 99961, .int 99929, .int 99923, .int 99907, .int 99901, .int 99881, .int 99877]), some (.int c), some (.int mix), o5, o6] ∧ s = S ∧ 0 ≤ mix ∧ mix < 2147483647) ⟨_, _, _, rfl, rfl, by omega, by omega⟩ ?_ ?_
  · rintro j e s hj ⟨mix, o5, o6, rfl, rfl, m0, m1⟩
    refine ⟨_, rfl, fun N' hnx _ _ _ _ => ?_⟩
    simp only [fnD, sNx, sSeq, sRet, sRetN, sDrop, sIf, sBrk, sCnt, sAsg, sPar, sAug, sSub, setD, sThru, asgT, asgL, itemsOf, vr, cn, dTwo, tbl, ttr, truD_bl, truD_int, truD_non, truD_tup, truD_lst, truD_str, truD_ref, tAndD, tOrD, tNotD, vOf, eIf, vNot, dNeg, fAdd_int, fAdd_tup, fSub, fMul, fDiv, fMod, fPow, fShl, fLt, fLe, fGt, fGe, fEq, fNe, fIx_tup, fIx_lst, fIx_ref, aNil, aCons, dTup, dLst, dLstR, dB, bAbs, bLen_tup, bLen_lst, bLen_ref, bMax, bMin, bInt_int, bInt_bl, dBits, dCall, iVal, iR1, iR2, List.map_cons, List.map_nil, List.length_cons, List.length_nil, List.replicate, List.cons_append, List.nil_append, List.append_nil, List.set, List.getElem?_cons_zero, List.getElem?_cons_succ, List.getElem?_nil, atI_0, atI_1, atI_2, ix20, ix21, sup_same, Nat.reduceAdd, Nat.reduceSub, Nat.succ_eq_add_one, decide_eq_true_eq, Bool.not_eq_true', decide_eq_false_iff_not, true_and, and_true, Bool.true_eq_false, Bool.false_eq_true, if_true, if_false, reduceCtorEq]
    refine cell_spec (by omega) fun c2 => ?_
    have g0 := fmod_pos (a := c2) (b := 10 ^ (18 : Int).toNat) (by decide +kernel)
    have e18 : (10 : Int) ^ (18 : Int).toNat = 1000000000000000000 := rfl
    rw [e18] at g0 ⊢
    have : ∃ p : Int, 0 < p ∧ p < 100000 ∧ atI [D.int 99991, .int 99971, .int 99961, .int 99929, .int 99923, .int 99907, .int 99901, .int 99881, .int 99877] (0 + (j : Int)) = some (.int p) := by
      have hn : ∀ (k : Nat) (p : Int), j = k → [D.int 99991, .int 99971, .int 99961, .int 99929, .int 99923, .int 99907, .int 99901, .int 99881, .int 99877][k]? = some (.int p) → atI [D.int 99991, .int 99971, .int 99961, .int 99929, .int 99923, .int 99907, .int 99901, .int 99881, .int 99877] (0 + (j : Int)) = some (.int p) := fun k p e1 e2 => by
        have : (0 + (j : Int)) = (k : Int) := by omega
        rw [this]
        exact atI_nat e2
      rcases (by omega : j = 0 ∨ j = 1 ∨ j = 2 ∨ j = 3 ∨ j = 4 ∨ j = 5 ∨ j = 6 ∨ j = 7 ∨ j = 8) with h | h | h | h | h | h | h | h | h
      · exact ⟨_, by decide, by decide, hn 0 99991 h rfl⟩
      · exact ⟨_, by decide, by decide, hn 1 99971 h rfl⟩
      · exact ⟨_, by decide, by decide, hn 2 99961 h rfl⟩
      · exact ⟨_, by decide, by decide, hn 3 99929 h rfl⟩
      · exact ⟨_, by decide, by decide, hn 4 99923 h rfl⟩
      · exact ⟨_, by decide, by decide, hn 5 99907 h rfl⟩
      · exact ⟨_, by decide, by decide, hn 6 99901 h rfl⟩
      · exact ⟨_, by decide, by decide, hn 7 99881 h rfl⟩
      · exact ⟨_, by decide, by decide, hn 8 99877 h rfl⟩
    obtain ⟨p, p0, p1, ep⟩ := this
    simp only [ep, fnD, sNx, sSeq, sRet, sRetN, sDrop, sIf, sBrk, sCnt, sAsg, sPar, sAug, sSub, setD, sThru, asgT, asgL, itemsOf, vr, cn, dTwo, tbl, ttr, truD_bl, truD_int, truD_non, truD_tup, truD_lst, truD_str, truD_ref, tAndD, tOrD, tNotD, vOf, eIf, vNot, dNeg, fAdd_int, fAdd_tup, fSub, fMul, fDiv, fMod, fPow, fShl, fLt, fLe, fGt, fGe, fEq, fNe, fIx_tup, fIx_lst, fIx_ref, aNil, aCons, dTup, dLst, dLstR, dB, bAbs, bLen_tup, bLen_lst, bLen_ref, bMax, bMin, bInt_int, bInt_bl, dBits, dCall, iVal, iR1, iR2, List.map_cons, List.map_nil, List.length_cons, List.length_nil, List.replicate, List.cons_append, List.nil_append, List.append_nil, List.set, List.getElem?_cons_zero, List.getElem?_cons_succ, List.getElem?_nil, atI_0, atI_1, atI_2, ix20, ix21, sup_same, Nat.reduceAdd, Nat.reduceSub, Nat.succ_eq_add_one, decide_eq_true_eq, Bool.not_eq_true', decide_eq_false_iff_not, true_and, and_true, Bool.true_eq_false, Bool.false_eq_true, if_true, if_false, reduceCtorEq]
    have g1 := fmod_pos (a := (c2.fmod 1000000000000000000 + 11 * (0 + (j : Int)) + 1) ^ (3 : Int).toNat) p0
    have g2 := fmod_pos (a := mix * 48271 + ((c2.fmod 1000000000000000000 + 11 * (0 + (j : Int)) + 1) ^ (3 : Int).toNat).fmod p) (b := 2147483629) (by omega)
    have hb := (sm.of (n := 61) (i := c2.fmod 1000000000000000000 + 11 * (0 + (j : Int)) + 1) (by omega)).bits
    refine ⟨by decide, by decide, by decide, (sm.of (n := 5) (by decide)).cmul (sm.of (n := 5) (by omega)) (by decide), (sm.of (n := 31) (by omega)).cmul (sm.of (n := 16) (by decide)) (by decide), by decide, by omega, by omega, by decide, hnx _ _ ⟨_, _, _, rfl, rfl, g2.1, by omega⟩⟩
  · rintro e s ⟨mix, o5, o6, rfl, rfl, m0, m1⟩
    simp only [fnD, sNx, sSeq, sRet, sRetN, sDrop, sIf, sBrk, sCnt, sAsg, sPar, sAug, sSub, setD, sThru, asgT, asgL, itemsOf, vr, cn, dTwo, tbl, ttr, truD_bl, truD_int, truD_non, truD_tup, truD_lst, truD_str, truD_ref, tAndD, tOrD, tNotD, vOf, eIf, vNot, dNeg, fAdd_int, fAdd_tup, fSub, fMul, fDiv, fMod, fPow, fShl, fLt, fLe, fGt, fGe, fEq, fNe, fIx_tup, fIx_lst, fIx_ref, aNil, aCons, dTup, dLst, dLstR, dB, bAbs, bLen_tup, bLen_lst, bLen_ref, bMax, bMin, bInt_int, bInt_bl, dBits, dCall, iVal, iR1, iR2, List.map_cons, List.map_nil, List.length_cons, List.length_nil, List.replicate, List.cons_append, List.nil_append, List.append_nil, List.set, List.getElem?_cons_zero, List.getElem?_cons_succ, List.getElem?_nil, atI_0, atI_1, atI_2, ix20, ix21, sup_same, Nat.reduceAdd, Nat.reduceSub, Nat.succ_eq_add_one, decide_eq_true_eq, Bool.not_eq_true', decide_eq_false_iff_not, true_and, and_true, Bool.true_eq_false, Bool.false_eq_true, if_true, if_false, reduceCtorEq]
    have fin : ∀ (c' : Int) (a : Addr), 0 ≤ c' → s a = none → Q (.ref a) (sup s a [.int c', .int (mix + 1)]) := fun c' a hc ha => k a _ ha ⟨_, _, sup_same, hc, by omega, by omega⟩ Fr.sup
    have e18 : (10 : Int) ^ (18 : Int).toNat = 1000000000000000000 := rfl
    rw [e18]
    refine ⟨by decide, by decide, ?_⟩
    split
    · exact ⟨by decide, fun a ha => fin 0 a (by omega) ha⟩
    · exact ⟨by decide, fun a ha => fin c a (by omega) ha⟩
end Lb

namespace Lb
open PySem PySem.Spec PyProof.Rows L2 Bl
theorem ok_rt (x : Rt) : okD (rt x) := ⟨rfl, rfl⟩
/-- in its form -/
def Cn (x : Rt) : Prop := (x.s = 0 ∧ x.q = 0) ∨ (x.s ≠ 0 ∧ x.q ≠ 0 ∧ ¬ sqb x.q)
theorem canon_cn (b : Rat) (s : Int) (q : Rat) : Cn (canon b s q) := by
  unfold canon Cn
  split
  · exact .inl ⟨rfl, rfl⟩
  · rename_i h
    split
    · exact .inl ⟨rfl, rfl⟩
    · rename_i h2
      exact .inr ⟨fun z => h (.inl z), fun z => h (.inr z), h2⟩
theorem sqr_sr {n : Nat} {q : Rat} (h : sr n q) (h0 : 0 ≤ q) : sr n (sqr q) := by
  have z := low_sm (r := sqr q) (isq_den q) (Rat.div_mul_cancel (castne (isq_den q))) (isq_sm (Rat.num_nonneg.mpr h0) h.n) (isq_sm (n := q.den) (by omega) h.d)
  exact ⟨z.1, z.2⟩
theorem sr_s {s : Int} (h : s = -1 ∨ s = 0 ∨ s = 1) : sr 1 (s : Rat) := by
  rcases h with h | h | h <;> subst h <;> exact sr.int (sm.of (by decide)) (by decide)
theorem canon_sr {n m : Nat} {b q : Rat} {s : Int} (hb : sr n b) (hq : sr m q) (h0 : 0 ≤ q) (hs : s = -1 ∨ s = 0 ∨ s = 1) : sr (n + m + 2) (canon b s q).b ∧ sr (m + 1) (canon b s q).q ∧ 0 ≤ (canon b s q).q ∧ ((canon b s q).s = -1 ∨ (canon b s q).s = 0 ∨ (canon b s q).s = 1) := by
  unfold canon
  split
  · exact ⟨hb.mono (by omega), sr.zero, Rat.le_refl, .inr (.inl rfl)⟩
  · split
    · exact ⟨(hb.add ((sr_s hs).mul (sqr_sr hq h0))).mono (by omega), sr.zero, Rat.le_refl, .inr (.inl rfl)⟩
    · exact ⟨hb.mono (by omega), hq.mono (by omega), h0, hs⟩
theorem scaled_pr {x : Rt} {y : Rat} {p d : Int} {n m : Nat} {S : Sto} {Q : DK} {E : EK} (hp : p = y.num) (hd : d = y.den) (hb : sr n x.b) (hq : sr n x.q) (hy : sr m y) (hq0 : 0 ≤ x.q) (hs : x.s = -1 ∨ x.s = 0 ∨ x.s = 1) (hn : n + 2 * m ≤ 4400) (k : Q (rt (canon (x.b * y) (x.s * y.num.sign) (x.q * (y * y)))) S) : m_scaled [rt x, pr p d] S Q E := by
  subst hp
  subst hd
  exact scaled_spec hb hq hy hq0 hs hn k
theorem sqb_scale {q g : Rat} (hg : g ≠ 0) (h : sqb (q * (g * g))) : sqb q := by
  have e := sqr_mul h
  refine sqb_of (t := sqr (q * (g * g)) * g⁻¹) ?_
  have z := Rat.mul_inv_cancel g hg
  grind
theorem sign_sq {g : Rat} (hg : g ≠ 0) : g.num.sign * g.num.sign = 1 := by
  have z : g.num ≠ 0 := fun z => hg (Rat.num_eq_zero.mp z)
  rcases Int.lt_or_gt_of_ne z with z | z
  · rw [Int.sign_eq_neg_one_of_neg z]; rfl
  · rw [Int.sign_eq_one_of_pos z]; rfl
end Lb

/-! The steps of the transformers as rules, for a tactic that goes on as long as one rule fits. -/
namespace Go
open PySem PySem.Spec PyProof.Rows L2 Bl Lb
section
variable {env : Ev} {l : Ev} {S S1 : Sto} {Q : DK} {E : EK} {nx bk ct : Ev → Sto → Prop} {rt : DK} {ex : Xc → Ev → Sto → Prop} {t u : TSd} {ta tb te : TEd} {tt tu : TTd} {a b : D} {P : Bool → Sto → Prop}
def asgK (S : Sto) (g : Tg) (d : D) (env : Ev) (nx : Ev → Sto → Prop) : Prop := match asgT S g d env with
  | some e => nx e S
  | none => False
def parK (S : Sto) (is : List Nat) (ds : List D) (env : Ev) (nx : Ev → Sto → Prop) : Prop := match asgL S (is.map .nm) ds env with
  | some e => nx e S
  | none => False
def ifK (b : Bool) (A B : Prop) : Prop := if b = true then A else B
def tblK (d : D) (S : Sto) (Q : Bool → Sto → Prop) : Prop := match d with | .bl b => Q b S | _ => False
def seqLst (ds : List D) (S : Sto) (Q : DK) : Prop := ds.length ≤ sizeLine ∧ Q (.lst ds) S
theorem gAll {xs : List D} (k : bAll [.lst xs] S Q) : bAll [.lst xs] S Q := k
theorem gVr {i : Nat} (k : vr i env S Q E) : vr i env S Q E := k
def wipeK (vs : List Nat) (env : Ev) (k : Ev → Prop) : Prop := k (wipeD env vs)
def unsK (i : Nat) (env : Ev) (k : Ev → Prop) : Prop := k (env.set i none)
def getLL (ks : List Str) (ds : List D) (ty tx : TEd) (env : Ev) (S : Sto) (Q : DK) (E : EK) : Prop := ds.length = ks.length ∧ ty env S (fun y S2 => tx env S2 (fun z S3 => match y with
  | .str x => Q ((lookD ks ds x).getD z) S3
  | _ => False) E) E
theorem gUns {i : Nat} {k : Ev → Prop} (h : unsK i env k) : unsK i env k := h
theorem gAsg {g : Tg} (k : asgK S g a env nx) : asgK S g a env nx := k
theorem gStar {i aft : Nat} {gs : List Tg} (k : starK i aft gs a env S nx) : starK i aft gs a env S nx := k
theorem gAug {i : Nat} {f : F2} (k : sAug i te f env S ⟨nx, rt, bk, ct, ex⟩) : sAug i te f env S ⟨nx, rt, bk, ct, ex⟩ := k
theorem gIxT {ds : List D} (k : fIx (.tup ds) b S Q) : fIx (.tup ds) b S Q := k
theorem gIxL {ds : List D} (k : fIx (.lst ds) b S Q) : fIx (.lst ds) b S Q := k
def isiK (T : String) (d : D) (S : Sto) (Q : DK) : Prop := match isiD T d with | some b => Q (.bl b) S | none => False
def enumK (d : D) (S : Sto) (Q : List D → Sto → Prop) : Prop := match seqD d with | some ds => Q (enumD ds) S | none => False
def revK (d : D) (S : Sto) (Q : List D → Sto → Prop) : Prop := match seqD d with | some ds => Q ds.reverse S | none => False
theorem revT {ds : List D} {Q : List D → Sto → Prop} (k : Q ds.reverse S) : revK (.tup ds) S Q := k
theorem revL {ds : List D} {Q : List D → Sto → Prop} (k : Q ds.reverse S) : revK (.lst ds) S Q := k
theorem zipT {ds es : List D} {Q : List D → Sto → Prop} (k : Q (zipD ds es) S) : zipK (.tup ds) (.tup es) S Q := k
theorem zipL {ds es : List D} {Q : List D → Sto → Prop} (k : Q (zipD ds es) S) : zipK (.lst ds) (.lst es) S Q := k
def iValK (d : D) (S : Sto) (Q : List D → Sto → Prop) : Prop := match d with | .tup ds => Q ds S | .lst ds => Q ds S | _ => False
theorem iValT {ds : List D} {Q : List D → Sto → Prop} (k : Q ds S) : iValK (.tup ds) S Q := k
theorem iValL {ds : List D} {Q : List D → Sto → Prop} (k : Q ds S) : iValK (.lst ds) S Q := k
theorem nx' (k : nx env S) : sNx env S ⟨nx, rt, bk, ct, ex⟩ := k
theorem seq (k : t env S ⟨fun e S1 => u e S1 ⟨nx, rt, bk, ct, ex⟩, rt, bk, ct, ex⟩) : sSeq t u env S ⟨nx, rt, bk, ct, ex⟩ := k
theorem ret (k : te env S rt fun x S1 => ex x env S1) : sRet te env S ⟨nx, rt, bk, ct, ex⟩ := k
theorem retN (k : rt .non S) : sRetN env S ⟨nx, rt, bk, ct, ex⟩ := k
theorem drop (k : te env S (fun _ S1 => nx env S1) fun x S1 => ex x env S1) : sDrop te env S ⟨nx, rt, bk, ct, ex⟩ := k
theorem brk (k : bk env S) : sBrk env S ⟨nx, rt, bk, ct, ex⟩ := k
theorem cnt (k : ct env S) : sCnt env S ⟨nx, rt, bk, ct, ex⟩ := k
theorem if' (k : tt env S (fun b S1 => ifK b (t env S1 ⟨nx, rt, bk, ct, ex⟩) (u env S1 ⟨nx, rt, bk, ct, ex⟩)) fun x S1 => ex x env S1) : sIf tt t u env S ⟨nx, rt, bk, ct, ex⟩ := k
theorem asg {g : Tg} (k : te env S (fun d S1 => asgK S1 g d env nx) fun x S1 => ex x env S1) : sAsg te g env S ⟨nx, rt, bk, ct, ex⟩ := k
theorem par {is : List Nat} {t : TAd} (k : t env S (fun ds S1 => parK S1 is ds env nx) fun x S1 => ex x env S1) : sPar is t env S ⟨nx, rt, bk, ct, ex⟩ := k
theorem raise {x : Str} (k : ex ⟨x, []⟩ env S) : sRaise x env S ⟨nx, rt, bk, ct, ex⟩ := k
theorem thru (k : t env S ⟨fun e s => u e s ⟨nx, rt, bk, ct, ex⟩, rt, bk, ct, fun _ _ _ => False⟩) : sThru t u env S ⟨nx, rt, bk, ct, ex⟩ := k
theorem tryAs {sb : Str → Option Bool} {i : Nat} {v : Addr → Str → TSd} (k : t env S (ndT sb i v ⟨nx, rt, bk, ct, ex⟩)) : sTryAs t sb i v env S ⟨nx, rt, bk, ct, ex⟩ := k
theorem for' {ti : TAd} {g : Tg} (k : ti env S (fun ds S1 => forD g t ds env S1 ⟨nx, rt, bk, ct, ex⟩) fun x S1 => ex x env S1) : sFor ti g t env S ⟨nx, rt, bk, ct, ex⟩ := k
theorem sub {to ti : TEd} (k : te env S (fun v S1 => to env S1 (fun o S2 => ti env S2 (fun i S3 => setD o i v S3 fun S4 => nx env S4) fun x S3 => ex x env S3) fun x S2 => ex x env S2) fun x S1 => ex x env S1) : sSub te to ti env S ⟨nx, rt, bk, ct, ex⟩ := k
/-! targets -/
theorem tp_cons {g : Tg} {ts : List Tg} {d : D} {ds : List D} (k : asgK S g d env fun e S => asgK S (.tp ts) (.tup ds) e nx) : asgK S (.tp (g :: ts)) (.tup (d :: ds)) env nx := by
  unfold asgK at *
  show match (match asgT S g d env with | some e => asgL S ts ds e | none => none) with | some e => nx e S | none => False
  cases h : asgT S g d env with
  | none => rw [h] at k; exact k.elim
  | some e => rw [h] at k; exact k
theorem tp_nil (k : nx env S) : asgK S (.tp []) (.tup []) env nx := k
theorem par_cons {i : Nat} {is : List Nat} {d : D} {ds : List D} (k : asgK S (.nm i) d env fun e S => parK S is ds e nx) : parK S (i :: is) (d :: ds) env nx := k
theorem par_nil (k : nx env S) : parK S [] [] env nx := k
/-! expressions -/
theorem cn' (k : Q a S) : Bl.cn a env S Q E := k
theorem two {f : F2} (k : ta env S (fun x S1 => tb env S1 (fun y S2 => f x y S2 Q) E) E) : dTwo ta tb f env S Q E := k
theorem nil {Q : List D → Sto → Prop} (k : Q [] S) : aNil env S Q E := k
theorem cons {t : TEd} {u : TAd} {Q : List D → Sto → Prop} (k : t env S (fun d S1 => u env S1 (fun ds S2 => Q (d :: ds) S2) E) E) : aCons t u env S Q E := k
def tupK (ds : List D) (S : Sto) (Q : DK) : Prop := ds.length ≤ sizeLine ∧ Q (.tup ds) S
def lstRK (ds : List D) (S : Sto) (Q : DK) : Prop := ds.length ≤ sizeLine ∧ ∀ a, S a = none → Q (.ref a) (sup S a ds)
theorem tup {t : TAd} (k : t env S (fun ds S1 => tupK ds S1 Q) E) : dTup t env S Q E := k
theorem lst {t : TAd} (k : t env S (fun ds S1 => seqLst ds S1 Q) E) : dLst t env S Q E := k
theorem lstR {t : TAd} (k : t env S (fun ds S1 => lstRK ds S1 Q) E) : dLstR t env S Q E := k
theorem tupK' {ds : List D} (h : Nat.ble ds.length 100 = true) (k : Q (.tup ds) S) : tupK ds S Q := ⟨Nat.le_trans (Nat.le_of_ble_eq_true h) (by decide), k⟩
theorem lstK' {ds : List D} (h : Nat.ble ds.length 100 = true) (k : Q (.lst ds) S) : seqLst ds S Q := ⟨Nat.le_trans (Nat.le_of_ble_eq_true h) (by decide), k⟩
theorem lstRK' {ds : List D} (h : Nat.ble ds.length 100 = true) (k : ∀ a, S a = none → Q (.ref a) (sup S a ds)) : lstRK ds S Q := ⟨Nat.le_trans (Nat.le_of_ble_eq_true h) (by decide), k⟩
theorem tbl' {P : Bool → Sto → Prop} (k : te env S (fun d S' => tblK d S' P) E) : tbl te env S P E := k
theorem tblK' {c : Bool} (k : P c S) : tblK (.bl c) S P := k
theorem ttr' (k : te env S (fun d S' => truD d S' P) E) : ttr te env S P E := k
theorem truB {c : Bool} (k : P c S) : truD (.bl c) S P := k
theorem truI {i : Int} (k : P (i != 0) S) : truD (.int i) S P := k
theorem truN (k : P false S) : truD .non S P := k
theorem and' (k : tt env S (fun c S1 => ifK c (tu env S1 P E) (P false S1)) E) : tAndD tt tu env S P E := k
theorem or' (k : tt env S (fun c S1 => ifK c (P true S1) (tu env S1 P E)) E) : tOrD tt tu env S P E := k
theorem not' (k : tt env S (fun c S1 => P (!c) S1) E) : tNotD tt env S P E := k
theorem vOf' (k : tt env S (fun c S1 => Q (.bl c) S1) E) : vOf tt env S Q E := k
theorem vNot' (k : ta env S (fun d S' => tblK d S' fun c S1 => Q (.bl (!c)) S1) E) : vNot ta env S Q E := k
theorem eIf' (k : tt env S (fun c S1 => ifK c (ta env S1 Q E) (tb env S1 Q E)) E) : eIf tt ta tb env S Q E := k
theorem ifT {A B : Prop} (k : A) : ifK true A B := k
theorem ifF {A B : Prop} (k : B) : ifK false A B := k
theorem ifN {A B : Prop} {c : Bool} (k : ifK c B A) : ifK (!c) A B := by cases c <;> exact k
theorem ifD {A B p : Prop} [Decidable p] (h : p → A) (k : ¬ p → B) : ifK (decide p) A B := by
  unfold ifK
  by_cases c : p
  · rw [if_pos (decide_eq_true c)]; exact h c
  · rw [if_neg (by simpa using c)]; exact k c
theorem ifDT {A B p : Prop} [Decidable p] (h : p) (k : A) : ifK (decide p) A B := ifD (fun _ => k) fun z => absurd h z
theorem ifDF {A B p : Prop} [Decidable p] (h : ¬ p) (k : B) : ifK (decide p) A B := ifD (fun z => absurd z h) fun _ => k
/-! operators -/
variable {i j : Int}
theorem add (k : Q (.int (i + j)) S) : fAdd (.int i) (.int j) S Q := k
theorem addT {ds es : List D} (h : Nat.ble (ds ++ es).length 1000 = true) (k : Q (.tup (ds ++ es)) S) : fAdd (.tup ds) (.tup es) S Q := ⟨by have := Nat.le_of_ble_eq_true h; rw [List.length_append] at this; exact Nat.le_trans this (by decide), k⟩
theorem sub' (k : Q (.int (i - j)) S) : fSub (.int i) (.int j) S Q := k
theorem mul (h : CMul' i j) (k : Q (.int (i * j)) S) : fMul (.int i) (.int j) S Q := ⟨h, k⟩
theorem div (h : CDiv' j) (k : Q (.int (i.fdiv j)) S) : fDiv (.int i) (.int j) S Q := ⟨h, k⟩
theorem mod (h : j ≠ 0) (k : Q (.int (i.fmod j)) S) : fMod (.int i) (.int j) S Q := ⟨h, k⟩
theorem lt (k : Q (.bl (decide (i < j))) S) : fLt (.int i) (.int j) S Q := k
theorem le (k : Q (.bl (decide (i ≤ j))) S) : fLe (.int i) (.int j) S Q := k
theorem gt (k : Q (.bl (decide (j < i))) S) : fGt (.int i) (.int j) S Q := k
theorem ge (k : Q (.bl (decide (j ≤ i))) S) : fGe (.int i) (.int j) S Q := k
theorem eqI (k : Q (.bl (decide (i = j))) S) : fEq (.int i) (.int j) S Q := ⟨ok_int _, ok_int _, by rw [Lb.eq_int]; exact k⟩
theorem neI (k : Q (.bl (!decide (i = j))) S) : fNe (.int i) (.int j) S Q := ⟨ok_int _, ok_int _, by rw [Lb.eq_int]; exact k⟩
theorem ne' (h : okD a) (h2 : okD b) (k : Q (.bl (!eqD a b)) S) : fNe a b S Q := ⟨h, h2, k⟩
def negK (d : D) (S : Sto) (Q : DK) : Prop := match d with | .int i => Q (.int (-i)) S | _ => False
theorem neg (k : ta env S (fun d S' => negK d S' Q) E) : dNeg ta env S Q E := k
theorem neg' (k : Q (.int (-i)) S) : negK (.int i) S Q := k
theorem is' (k : Q (.bl (isN a)) S) : fIs a .non S Q := k
theorem isNot' (k : Q (.bl (!isN a)) S) : fIsNot a .non S Q := k
theorem chain {tc : TEd} {f g : F2} (k : ta env S (fun x S1 => tb env S1 (fun y S2 => f x y S2 (fun d S3 => match d with
  | .bl true => tc env S3 (fun z S4 => g y z S4 Q) E
  | .bl false => Q (.bl false) S3
  | _ => False)) E) E) : dChain ta tb tc f g env S Q E := k
theorem dB' {g : GB} {t : TAd} (k : t env S (fun ds S1 => g ds S1 Q) E) : dB g t env S Q E := k
theorem abs' (k : Q (.int (if i < 0 then -i else i)) S) : bAbs [.int i] S Q := k
theorem lenT {ds : List D} (k : Q (.int ds.length) S) : bLen [.tup ds] S Q := k
theorem lenL {ds : List D} (k : Q (.int ds.length) S) : bLen [.lst ds] S Q := k
theorem max' (k : Q (.int (if j > i then j else i)) S) : bMax [.int i, .int j] S Q := k
theorem min' (k : Q (.int (if j < i then j else i)) S) : bMin [.int i, .int j] S Q := k
theorem intI (k : Q (.int i) S) : bInt [.int i] S Q := k
theorem intB {c : Bool} (k : Q (.int (if c then 1 else 0)) S) : bInt [.bl c] S Q := k
theorem tupL {ds : List D} (k : Q (.tup ds) S) : bTup [.lst ds] S Q := k
theorem tupT {ds : List D} (k : Q (.tup ds) S) : bTup [.tup ds] S Q := k
theorem isi {T : String} (k : ta env S (fun d S1 => isiK T d S1 Q) E) : dIsi T ta env S Q E := k
def callK (m : TFd) (np nk : Nat) (ds zs : List D) (gs : List D) (S : Sto) (Q : DK) (E : EK) : Prop := ds.length = np ∧ zs.length = nk ∧ m gs S Q E
theorem call {m : TFd} {np nk : Nat} {gD : List D → List D → List D} {tk : TAd} {t : TAd} (k : t env S (fun ds S1 => tk env S1 (fun zs S2 => callK m np nk ds zs (gD ds zs) S2 Q E) E) E) : dCall m np nk gD t tk env S Q E := k
theorem callK' {m : TFd} {np nk : Nat} {ds zs gs : List D} (h : ds.length = np) (h2 : zs.length = nk) (k : m gs S Q E) : callK m np nk ds zs gs S Q E := ⟨h, h2, k⟩
/-! items -/
theorem ixT {ds : List D} {i : Int} {d : D} (h : atI ds i = some d) (k : Q d S) : fIx (.tup ds) (.int i) S Q := by
  unfold fIx
  dsimp only
  rw [h]
  exact k
theorem ixL {ds : List D} {i : Int} {d : D} (h : atI ds i = some d) (k : Q d S) : fIx (.lst ds) (.int i) S Q := by
  unfold fIx
  dsimp only
  rw [h]
  exact k
theorem ixR {r : Addr} {ds : List D} {i : Int} {d : D} (e : S r = some ds) (h : atI ds i = some d) (k : Q d S) : fIx (.ref r) (.int i) S Q := by
  unfold fIx
  dsimp only
  rw [e]
  dsimp only
  rw [h]
  exact k
def r1K (ds : List D) (S : Sto) (Q : List D → Sto → Prop) : Prop := match ds with
  | [.int j] => -(2 ^ 62) ≤ j ∧ j < 2 ^ 62 ∧ Q (rngD 0 j.toNat) S
  | _ => False
def r2K (ds : List D) (S : Sto) (Q : List D → Sto → Prop) : Prop := match ds with
  | [.int i, .int j] => (-(2 ^ 62) ≤ i ∧ i < 2 ^ 62 ∧ -(2 ^ 62) ≤ j ∧ j < 2 ^ 62) ∧ Q (rngD i (j - i).toNat) S
  | _ => False
theorem star {te : TEd} {i aft : Nat} {gs : List Tg} (k : te env S (fun d S1 => starK i aft gs d env S1 nx) fun x S1 => ex x env S1) : sStar te i aft gs env S ⟨nx, rt, bk, ct, ex⟩ := k
def asgLK (S : Sto) (gs : List Tg) (ds : List D) (env : Ev) (nx : Ev → Sto → Prop) : Prop := match asgL S gs ds env with
  | some e => nx e S
  | none => False
theorem l_cons {g : Tg} {ts : List Tg} {d : D} {ds : List D} (k : asgK S g d env fun e S => asgLK S ts ds e nx) : asgLK S (g :: ts) (d :: ds) env nx := by
  unfold asgK at k
  unfold asgLK at *
  show match (match asgT S g d env with | some e => asgL S ts ds e | none => none) with | some e => nx e S | none => False
  cases h : asgT S g d env with
  | none => rw [h] at k; exact k.elim
  | some e => rw [h] at k; exact k
theorem l_nil (k : nx env S) : asgLK S [] [] env nx := k
theorem starG {i aft : Nat} {gs : List Tg} {d : D} {ds es : List D} (h : itemsOf S d = some ds) (hl : i + aft ≤ ds.length) (e : starD i aft ds = es) (k : asgLK S gs es env nx) : starK i aft gs d env S nx := by
  unfold starK
  rw [h]
  refine ⟨hl, ?_⟩
  rw [e]
  exact k
theorem enum' {Q : List D → Sto → Prop} (k : te env S (fun d S1 => enumK d S1 Q) E) : iEnumD te env S Q E := k
theorem rev' {Q : List D → Sto → Prop} (k : te env S (fun d S1 => revK d S1 Q) E) : iRevD te env S Q E := k
theorem zip' {t u : TEd} {Q : List D → Sto → Prop} (k : t env S (fun x S1 => u env S1 (fun y S2 => zipK x y S2 Q) E) E) : iZipD t u env S Q E := k
theorem eqS {x y : Str} {b : Bool} (h : okD (.str x)) (h2 : okD (.str y)) (e : eqD (.str x) (.str y) = b) (k : Q (.bl b) S) : fEq (.str x) (.str y) S Q := ⟨h, h2, by rw [e]; exact k⟩
theorem neS {x y : Str} {b : Bool} (h : okD (.str x)) (h2 : okD (.str y)) (e : (!eqD (.str x) (.str y)) = b) (k : Q (.bl b) S) : fNe (.str x) (.str y) S Q := ⟨h, h2, by rw [e]; exact k⟩
theorem gEqS {x y : Str} (k : fEq (.str x) (.str y) S Q) : fEq (.str x) (.str y) S Q := k
theorem gNeS {x y : Str} (k : fNe (.str x) (.str y) S Q) : fNe (.str x) (.str y) S Q := k
theorem wipe_nil {k : Ev → Prop} (h : k env) : wipeK [] env k := h
theorem wipe_cons {v : Nat} {vs : List Nat} {k : Ev → Prop} (h : wipeK vs env fun e => unsK v e k) : wipeK (v :: vs) env k := h
def lcK (g : Tg) (tt : TTd) (te : TEd) (vs : List Nat) (env : Ev) (ds : List D) (S : Sto) (Q : List D → Sto → Prop) : Prop := ds.length < sizeLine ∧ lcGo g tt te (wipeD env vs) ds S Q
theorem lc {ti : TAd} {g : Tg} {vs : List Nat} (k : ti env S (fun ds S1 => lcK g tt te vs env ds S1 fun ys S2 => Q (.lst ys) S2) E) : dLc ti g tt te vs env S Q E := k
theorem lcR {ti : TAd} {g : Tg} {vs : List Nat} (k : ti env S (fun ds S1 => lcK g tt te vs env ds S1 fun ys S2 => ∀ a, S2 a = none → Q (.ref a) (sup S2 a ys)) E) : dLcR ti g tt te vs env S Q E := k
theorem lc' {g : Tg} {vs : List Nat} {ds : List D} {Q : List D → Sto → Prop} (h : ds.length < sizeLine) (k : wipeK vs env fun e => lcGo g tt te e ds S Q) : lcK g tt te vs env ds S Q := ⟨h, k⟩
theorem lcL {g : Tg} {vs : List Nat} {ds : List D} {Q : List D → Sto → Prop} (h : Nat.ble ds.length 1000 = true) (k : wipeK vs env fun e => lcGo g tt te e ds S Q) : lcK g tt te vs env ds S Q := ⟨Nat.lt_of_le_of_lt (Nat.le_of_ble_eq_true h) (by decide), k⟩
theorem lg_nil {g : Tg} {Q : List D → Sto → Prop} (k : Q [] S) : lcGo g tt te env [] S Q := k
theorem lg_cons {g : Tg} {d : D} {ds : List D} {Q : List D → Sto → Prop} (k : asgK S g d env fun e1 S1 => tt e1 S1 (fun b S2 => ifK b (te e1 S2 (fun y S3 => lcGo g tt te env ds S3 fun ys S4 => Q (y :: ys) S4) EF) (lcGo g tt te env ds S2 Q)) EF) : lcGo g tt te env (d :: ds) S Q := by
  unfold asgK at k
  unfold lcGo
  exact k
theorem yes {P : Bool → Sto → Prop} (k : P true S) : tYesD env S P E := k
theorem for_nil {g : Tg} (k : nx env S) : forD g t [] env S ⟨nx, rt, bk, ct, ex⟩ := k
theorem for_cons {g : Tg} {d : D} {ds : List D} (k : asgK S g d env fun e1 S1 => t e1 S1 ⟨fun e s => forD g t ds e s ⟨nx, rt, bk, ct, ex⟩, rt, nx, fun e s => forD g t ds e s ⟨nx, rt, bk, ct, ex⟩, ex⟩) : forD g t (d :: ds) env S ⟨nx, rt, bk, ct, ex⟩ := by
  unfold asgK at k
  unfold forD
  exact k
theorem allB {xs : List D} {bs : List Bool} (h : blsOf xs = some bs) (k : Q (.bl (bs.all id)) S) : bAll [.lst xs] S Q := by
  unfold bAll
  dsimp only
  rw [h]
  exact k
theorem sl {t : TEd} {lo hi : TOd} (k : t env S (fun x S1 => lo env S1 (fun l S2 => hi env S2 (fun u S3 => fSl x l u S3 Q) E) E) E) : dSl t lo hi env S Q E := k
theorem oN {Q : Option Int → Sto → Prop} (k : Q none S) : oNone env S Q E := k
def osK (d : D) (S : Sto) (Q : Option Int → Sto → Prop) : Prop := match d with | .int i => Q (some i) S | _ => False
theorem oS {t : TEd} {Q : Option Int → Sto → Prop} (k : t env S (fun d S1 => osK d S1 Q) E) : oSome t env S Q E := k
theorem osK' {Q : Option Int → Sto → Prop} (k : Q (some i) S) : osK (.int i) S Q := k
theorem slT {ds es : List D} {lo hi : Option Int} (e : Bl.cutD ds lo hi = es) (k : Q (.tup es) S) : fSl (.tup ds) lo hi S Q := by subst e; exact k
theorem slL {ds es : List D} {lo hi : Option Int} (e : Bl.cutD ds lo hi = es) (k : Q (.lst es) S) : fSl (.lst ds) lo hi S Q := by subst e; exact k
def getLK (ks : List Str) (ds : List D) (y z : D) (S : Sto) (Q : DK) : Prop := match y with
  | .str x => Q ((lookD ks ds x).getD z) S
  | _ => False
theorem getL {ks : List Str} {ta : TAd} {ty tx : TEd} (k : ta env S (fun ds S1 => getLL ks ds ty tx env S1 Q E) E) : dGetL ks ta ty tx env S Q E := k
theorem getLL' {ks : List Str} {ds : List D} {ty tx : TEd} (h : ds.length = ks.length) (k : ty env S (fun y S2 => tx env S2 (fun z S3 => getLK ks ds y z S3 Q) E) E) : getLL ks ds ty tx env S Q E := ⟨h, k⟩
theorem iadd {i j : Int} (k : Q (.int (i + j)) S) : fIadd (.int i) (.int j) S Q := k
theorem while' {c : TTd} {b : TSd} (Wi : Nat → Ev → Sto → Prop) (m0 : Nat) (h0 : Wi m0 env S) (h : ∀ m env S, Wi m env S → c env S (fun k S1 => ifK k (b env S1 ⟨fun e s => ∃ m', m' < m ∧ Wi m' e s, rt, nx, fun e s => ∃ m', m' < m ∧ Wi m' e s, ex⟩) (nx env S1)) fun x S1 => ex x env S1) : sWhile c b env S ⟨nx, rt, bk, ct, ex⟩ := ⟨Wi, ⟨m0, h0⟩, h⟩
theorem r1 {t : TAd} {Q : List D → Sto → Prop} (k : t env S (fun ds S1 => r1K ds S1 Q) E) : iR1 t env S Q E := k
theorem r1' {j : Int} {n : Nat} {Q : List D → Sto → Prop} (e : j = n) (h : n < 2 ^ 60) (k : Q (rngD 0 n) S) : r1K [.int j] S Q := by
  subst e
  exact ⟨by omega, by omega, by rw [Int.toNat_natCast]; exact k⟩
theorem r2 {t : TAd} {Q : List D → Sto → Prop} (k : t env S (fun ds S1 => r2K ds S1 Q) E) : iR2 t env S Q E := k
theorem cells {α : Type} {c : Int} {xs : List α} (h : 0 ≤ c) : 1 + (if ((xs.length : Nat) : Int) < c then ((xs.length : Nat) : Int) else c) = ((1 + min c.toNat xs.length : Nat) : Int) := by
  split <;> omega
theorem iVal' {Q : List D → Sto → Prop} (k : te env S (fun d S1 => iValK d S1 Q) E) : iVal te env S Q E := k
end
theorem vr0 {l : Ev} {d : D} {S : Sto} {Q : DK} {E : EK} (k : Q d S) : vr 0 (some d :: l) S Q E := k
theorem set0 {y : Option D} {l : Ev} {d : D} {S : Sto} {nx : Ev → Sto → Prop} (k : nx (some d :: l) S) : asgK S (.nm 0) d (y :: l) nx := k
theorem uns0 {y : Option D} {l : Ev} {k : Ev → Prop} (h : k (none :: l)) : unsK 0 (y :: l) k := h
theorem aug0 {l : Ev} {d : D} {S : Sto} {te : TEd} {f : F2} {nx bk ct : Ev → Sto → Prop} {rt : DK} {ex : Xc → Ev → Sto → Prop} (k : te (some d :: l) S (fun y S1 => f d y S1 fun z S2 => nx (some z :: l) S2) fun x S1 => ex x (some d :: l) S1) : sAug 0 te f (some d :: l) S ⟨nx, rt, bk, ct, ex⟩ := k
theorem vr1 {x0 : Option D} {l : Ev} {d : D} {S : Sto} {Q : DK} {E : EK} (k : Q d S) : vr 1 (x0 :: some d :: l) S Q E := k
theorem set1 {x0 : Option D} {y : Option D} {l : Ev} {d : D} {S : Sto} {nx : Ev → Sto → Prop} (k : nx (x0 :: some d :: l) S) : asgK S (.nm 1) d (x0 :: y :: l) nx := k
theorem uns1 {x0 : Option D} {y : Option D} {l : Ev} {k : Ev → Prop} (h : k (x0 :: none :: l)) : unsK 1 (x0 :: y :: l) k := h
theorem aug1 {x0 : Option D} {l : Ev} {d : D} {S : Sto} {te : TEd} {f : F2} {nx bk ct : Ev → Sto → Prop} {rt : DK} {ex : Xc → Ev → Sto → Prop} (k : te (x0 :: some d :: l) S (fun y S1 => f d y S1 fun z S2 => nx (x0 :: some z :: l) S2) fun x S1 => ex x (x0 :: some d :: l) S1) : sAug 1 te f (x0 :: some d :: l) S ⟨nx, rt, bk, ct, ex⟩ := k
theorem vr2 {x0 x1 : Option D} {l : Ev} {d : D} {S : Sto} {Q : DK} {E : EK} (k : Q d S) : vr 2 (x0 :: x1 :: some d :: l) S Q E := k
theorem set2 {x0 x1 : Option D} {y : Option D} {l : Ev} {d : D} {S : Sto} {nx : Ev → Sto → Prop} (k : nx (x0 :: x1 :: some d :: l) S) : asgK S (.nm 2) d (x0 :: x1 :: y :: l) nx := k
theorem uns2 {x0 x1 : Option D} {y : Option D} {l : Ev} {k : Ev → Prop} (h : k (x0 :: x1 :: none :: l)) : unsK 2 (x0 :: x1 :: y :: l) k := h
theorem aug2 {x0 x1 : Option D} {l : Ev} {d : D} {S : Sto} {te : TEd} {f : F2} {nx bk ct : Ev → Sto → Prop} {rt : DK} {ex : Xc → Ev → Sto → Prop} (k : te (x0 :: x1 :: some d :: l) S (fun y S1 => f d y S1 fun z S2 => nx (x0 :: x1 :: some z :: l) S2) fun x S1 => ex x (x0 :: x1 :: some d :: l) S1) : sAug 2 te f (x0 :: x1 :: some d :: l) S ⟨nx, rt, bk, ct, ex⟩ := k
theorem vr3 {x0 x1 x2 : Option D} {l : Ev} {d : D} {S : Sto} {Q : DK} {E : EK} (k : Q d S) : vr 3 (x0 :: x1 :: x2 :: some d :: l) S Q E := k
theorem set3 {x0 x1 x2 : Option D} {y : Option D} {l : Ev} {d : D} {S : Sto} {nx : Ev → Sto → Prop} (k : nx (x0 :: x1 :: x2 :: some d :: l) S) : asgK S (.nm 3) d (x0 :: x1 :: x2 :: y :: l) nx := k
theorem uns3 {x0 x1 x2 : Option D} {y : Option D} {l : Ev} {k : Ev → Prop} (h : k (x0 :: x1 :: x2 :: none :: l)) : unsK 3 (x0 :: x1 :: x2 :: y :: l) k := h
theorem aug3 {x0 x1 x2 : Option D} {l : Ev} {d : D} {S : Sto} {te : TEd} {f : F2} {nx bk ct : Ev → Sto → Prop} {rt : DK} {ex : Xc → Ev → Sto → Prop} (k : te (x0 :: x1 :: x2 :: some d :: l) S (fun y S1 => f d y S1 fun z S2 => nx (x0 :: x1 :: x2 :: some z :: l) S2) fun x S1 => ex x (x0 :: x1 :: x2 :: some d :: l) S1) : sAug 3 te f (x0 :: x1 :: x2 :: some d :: l) S ⟨nx, rt, bk, ct, ex⟩ := k
theorem vr4 {x0 x1 x2 x3 : Option D} {l : Ev} {d : D} {S : Sto} {Q : DK} {E : EK} (k : Q d S) : vr 4 (x0 :: x1 :: x2 :: x3 :: some d :: l) S Q E := k
theorem set4 {x0 x1 x2 x3 : Option D} {y : Option D} {l : Ev} {d : D} {S : Sto} {nx : Ev → Sto → Prop} (k : nx (x0 :: x1 :: x2 :: x3 :: some d :: l) S) : asgK S (.nm 4) d (x0 :: x1 :: x2 :: x3 :: y :: l) nx := k
theorem uns4 {x0 x1 x2 x3 : Option D} {y : Option D} {l : Ev} {k : Ev → Prop} (h : k (x0 :: x1 :: x2 :: x3 :: none :: l)) : unsK 4 (x0 :: x1 :: x2 :: x3 :: y :: l) k := h
theorem aug4 {x0 x1 x2 x3 : Option D} {l : Ev} {d : D} {S : Sto} {te : TEd} {f : F2} {nx bk ct : Ev → Sto → Prop} {rt : DK} {ex : Xc → Ev → Sto → Prop} (k : te (x0 :: x1 :: x2 :: x3 :: some d :: l) S (fun y S1 => f d y S1 fun z S2 => nx (x0 :: x1 :: x2 :: x3 :: some z :: l) S2) fun x S1 => ex x (x0 :: x1 :: x2 :: x3 :: some d :: l) S1) : sAug 4 te f (x0 :: x1 :: x2 :: x3 :: some d :: l) S ⟨nx, rt, bk, ct, ex⟩ := k
theorem vr5 {x0 x1 x2 x3 x4 : Option D} {l : Ev} {d : D} {S : Sto} {Q : DK} {E : EK} (k : Q d S) : vr 5 (x0 :: x1 :: x2 :: x3 :: x4 :: some d :: l) S Q E := k
theorem set5 {x0 x1 x2 x3 x4 : Option D} {y : Option D} {l : Ev} {d : D} {S : Sto} {nx : Ev → Sto → Prop} (k : nx (x0 :: x1 :: x2 :: x3 :: x4 :: some d :: l) S) : asgK S (.nm 5) d (x0 :: x1 :: x2 :: x3 :: x4 :: y :: l) nx := k
theorem uns5 {x0 x1 x2 x3 x4 : Option D} {y : Option D} {l : Ev} {k : Ev → Prop} (h : k (x0 :: x1 :: x2 :: x3 :: x4 :: none :: l)) : unsK 5 (x0 :: x1 :: x2 :: x3 :: x4 :: y :: l) k := h
theorem aug5 {x0 x1 x2 x3 x4 : Option D} {l : Ev} {d : D} {S : Sto} {te : TEd} {f : F2} {nx bk ct : Ev → Sto → Prop} {rt : DK} {ex : Xc → Ev → Sto → Prop} (k : te (x0 :: x1 :: x2 :: x3 :: x4 :: some d :: l) S (fun y S1 => f d y S1 fun z S2 => nx (x0 :: x1 :: x2 :: x3 :: x4 :: some z :: l) S2) fun x S1 => ex x (x0 :: x1 :: x2 :: x3 :: x4 :: some d :: l) S1) : sAug 5 te f (x0 :: x1 :: x2 :: x3 :: x4 :: some d :: l) S ⟨nx, rt, bk, ct, ex⟩ := k
theorem vr6 {x0 x1 x2 x3 x4 x5 : Option D} {l : Ev} {d : D} {S : Sto} {Q : DK} {E : EK} (k : Q d S) : vr 6 (x0 :: x1 :: x2 :: x3 :: x4 :: x5 :: some d :: l) S Q E := k
theorem set6 {x0 x1 x2 x3 x4 x5 : Option D} {y : Option D} {l : Ev} {d : D} {S : Sto} {nx : Ev → Sto → Prop} (k : nx (x0 :: x1 :: x2 :: x3 :: x4 :: x5 :: some d :: l) S) : asgK S (.nm 6) d (x0 :: x1 :: x2 :: x3 :: x4 :: x5 :: y :: l) nx := k
theorem uns6 {x0 x1 x2 x3 x4 x5 : Option D} {y : Option D} {l : Ev} {k : Ev → Prop} (h : k (x0 :: x1 :: x2 :: x3 :: x4 :: x5 :: none :: l)) : unsK 6 (x0 :: x1 :: x2 :: x3 :: x4 :: x5 :: y :: l) k := h
theorem aug6 {x0 x1 x2 x3 x4 x5 : Option D} {l : Ev} {d : D} {S : Sto} {te : TEd} {f : F2} {nx bk ct : Ev → Sto → Prop} {rt : DK} {ex : Xc → Ev → Sto → Prop} (k : te (x0 :: x1 :: x2 :: x3 :: x4 :: x5 :: some d :: l) S (fun y S1 => f d y S1 fun z S2 => nx (x0 :: x1 :: x2 :: x3 :: x4 :: x5 :: some z :: l) S2) fun x S1 => ex x (x0 :: x1 :: x2 :: x3 :: x4 :: x5 :: some d :: l) S1) : sAug 6 te f (x0 :: x1 :: x2 :: x3 :: x4 :: x5 :: some d :: l) S ⟨nx, rt, bk, ct, ex⟩ := k
theorem vr7 {x0 x1 x2 x3 x4 x5 x6 : Option D} {l : Ev} {d : D} {S : Sto} {Q : DK} {E : EK} (k : Q d S) : vr 7 (x0 :: x1 :: x2 :: x3 :: x4 :: x5 :: x6 :: some d :: l) S Q E := k
theorem set7 {x0 x1 x2 x3 x4 x5 x6 : Option D} {y : Option D} {l : Ev} {d : D} {S : Sto} {nx : Ev → Sto → Prop} (k : nx (x0 :: x1 :: x2 :: x3 :: x4 :: x5 :: x6 :: some d :: l) S) : asgK S (.nm 7) d (x0 :: x1 :: x2 :: x3 :: x4 :: x5 :: x6 :: y :: l) nx := k
theorem uns7 {x0 x1 x2 x3 x4 x5 x6 : Option D} {y : Option D} {l : Ev} {k : Ev → Prop} (h : k (x0 :: x1 :: x2 :: x3 :: x4 :: x5 :: x6 :: none :: l)) : unsK 7 (x0 :: x1 :: x2 :: x3 :: x4 :: x5 :: x6 :: y :: l) k := h
theorem aug7 {x0 x1 x2 x3 x4 x5 x6 : Option D} {l : Ev} {d : D} {S : Sto} {te : TEd} {f : F2} {nx bk ct : Ev → Sto → Prop} {rt : DK} {ex : Xc → Ev → Sto → Prop} (k : te (x0 :: x1 :: x2 :: x3 :: x4 :: x5 :: x6 :: some d :: l) S (fun y S1 => f d y S1 fun z S2 => nx (x0 :: x1 :: x2 :: x3 :: x4 :: x5 :: x6 :: some z :: l) S2) fun x S1 => ex x (x0 :: x1 :: x2 :: x3 :: x4 :: x5 :: x6 :: some d :: l) S1) : sAug 7 te f (x0 :: x1 :: x2 :: x3 :: x4 :: x5 :: x6 :: some d :: l) S ⟨nx, rt, bk, ct, ex⟩ := k
theorem vr8 {x0 x1 x2 x3 x4 x5 x6 x7 : Option D} {l : Ev} {d : D} {S : Sto} {Q : DK} {E : EK} (k : Q d S) : vr 8 (x0 :: x1 :: x2 :: x3 :: x4 :: x5 :: x6 :: x7 :: some d :: l) S Q E := k
theorem set8 {x0 x1 x2 x3 x4 x5 x6 x7 : Option D} {y : Option D} {l : Ev} {d : D} {S : Sto} {nx : Ev → Sto → Prop} (k : nx (x0 :: x1 :: x2 :: x3 :: x4 :: x5 :: x6 :: x7 :: some d :: l) S) : asgK S (.nm 8) d (x0 :: x1 :: x2 :: x3 :: x4 :: x5 :: x6 :: x7 :: y :: l) nx := k
theorem uns8 {x0 x1 x2 x3 x4 x5 x6 x7 : Option D} {y : Option D} {l : Ev} {k : Ev → Prop} (h : k (x0 :: x1 :: x2 :: x3 :: x4 :: x5 :: x6 :: x7 :: none :: l)) : unsK 8 (x0 :: x1 :: x2 :: x3 :: x4 :: x5 :: x6 :: x7 :: y :: l) k := h
theorem aug8 {x0 x1 x2 x3 x4 x5 x6 x7 : Option D} {l : Ev} {d : D} {S : Sto} {te : TEd} {f : F2} {nx bk ct : Ev → Sto → Prop} {rt : DK} {ex : Xc → Ev → Sto → Prop} (k : te (x0 :: x1 :: x2 :: x3 :: x4 :: x5 :: x6 :: x7 :: some d :: l) S (fun y S1 => f d y S1 fun z S2 => nx (x0 :: x1 :: x2 :: x3 :: x4 :: x5 :: x6 :: x7 :: some z :: l) S2) fun x S1 => ex x (x0 :: x1 :: x2 :: x3 :: x4 :: x5 :: x6 :: x7 :: some d :: l) S1) : sAug 8 te f (x0 :: x1 :: x2 :: x3 :: x4 :: x5 :: x6 :: x7 :: some d :: l) S ⟨nx, rt, bk, ct, ex⟩ := k
theorem vr9 {x0 x1 x2 x3 x4 x5 x6 x7 x8 : Option D} {l : Ev} {d : D} {S : Sto} {Q : DK} {E : EK} (k : Q d S) : vr 9 (x0 :: x1 :: x2 :: x3 :: x4 :: x5 :: x6 :: x7 :: x8 :: some d :: l) S Q E := k
theorem set9 {x0 x1 x2 x3 x4 x5 x6 x7 x8 : Option D} {y : Option D} {l : Ev} {d : D} {S : Sto} {nx : Ev → Sto → Prop} (k : nx (x0 :: x1 :: x2 :: x3 :: x4 :: x5 :: x6 :: x7 :: x8 :: some d :: l) S) : asgK S (.nm 9) d (x0 :: x1 :: x2 :: x3 :: x4 :: x5 :: x6 :: x7 :: x8 :: y :: l) nx := k
theorem uns9 {x0 x1 x2 x3 x4 x5 x6 x7 x8 : Option D} {y : Option D} {l : Ev} {k : Ev → Prop} (h : k (x0 :: x1 :: x2 :: x3 :: x4 :: x5 :: x6 :: x7 :: x8 :: none :: l)) : unsK 9 (x0 :: x1 :: x2 :: x3 :: x4 :: x5 :: x6 :: x7 :: x8 :: y :: l) k := h
theorem aug9 {x0 x1 x2 x3 x4 x5 x6 x7 x8 : Option D} {l : Ev} {d : D} {S : Sto} {te : TEd} {f : F2} {nx bk ct : Ev → Sto → Prop} {rt : DK} {ex : Xc → Ev → Sto → Prop} (k : te (x0 :: x1 :: x2 :: x3 :: x4 :: x5 :: x6 :: x7 :: x8 :: some d :: l) S (fun y S1 => f d y S1 fun z S2 => nx (x0 :: x1 :: x2 :: x3 :: x4 :: x5 :: x6 :: x7 :: x8 :: some z :: l) S2) fun x S1 => ex x (x0 :: x1 :: x2 :: x3 :: x4 :: x5 :: x6 :: x7 :: x8 :: some d :: l) S1) : sAug 9 te f (x0 :: x1 :: x2 :: x3 :: x4 :: x5 :: x6 :: x7 :: x8 :: some d :: l) S ⟨nx, rt, bk, ct, ex⟩ := k
theorem vr10 {x0 x1 x2 x3 x4 x5 x6 x7 x8 x9 : Option D} {l : Ev} {d : D} {S : Sto} {Q : DK} {E : EK} (k : Q d S) : vr 10 (x0 :: x1 :: x2 :: x3 :: x4 :: x5 :: x6 :: x7 :: x8 :: x9 :: some d :: l) S Q E := k
theorem set10 {x0 x1 x2 x3 x4 x5 x6 x7 x8 x9 : Option D} {y : Option D} {l : Ev} {d : D} {S : Sto} {nx : Ev → Sto → Prop} (k : nx (x0 :: x1 :: x2 :: x3 :: x4 :: x5 :: x6 :: x7 :: x8 :: x9 :: some d :: l) S) : asgK S (.nm 10) d (x0 :: x1 :: x2 :: x3 :: x4 :: x5 :: x6 :: x7 :: x8 :: x9 :: y :: l) nx := k
theorem uns10 {x0 x1 x2 x3 x4 x5 x6 x7 x8 x9 : Option D} {y : Option D} {l : Ev} {k : Ev → Prop} (h : k (x0 :: x1 :: x2 :: x3 :: x4 :: x5 :: x6 :: x7 :: x8 :: x9 :: none :: l)) : unsK 10 (x0 :: x1 :: x2 :: x3 :: x4 :: x5 :: x6 :: x7 :: x8 :: x9 :: y :: l) k := h
theorem aug10 {x0 x1 x2 x3 x4 x5 x6 x7 x8 x9 : Option D} {l : Ev} {d : D} {S : Sto} {te : TEd} {f : F2} {nx bk ct : Ev → Sto → Prop} {rt : DK} {ex : Xc → Ev → Sto → Prop} (k : te (x0 :: x1 :: x2 :: x3 :: x4 :: x5 :: x6 :: x7 :: x8 :: x9 :: some d :: l) S (fun y S1 => f d y S1 fun z S2 => nx (x0 :: x1 :: x2 :: x3 :: x4 :: x5 :: x6 :: x7 :: x8 :: x9 :: some z :: l) S2) fun x S1 => ex x (x0 :: x1 :: x2 :: x3 :: x4 :: x5 :: x6 :: x7 :: x8 :: x9 :: some d :: l) S1) : sAug 10 te f (x0 :: x1 :: x2 :: x3 :: x4 :: x5 :: x6 :: x7 :: x8 :: x9 :: some d :: l) S ⟨nx, rt, bk, ct, ex⟩ := k
theorem vr11 {x0 x1 x2 x3 x4 x5 x6 x7 x8 x9 x10 : Option D} {l : Ev} {d : D} {S : Sto} {Q : DK} {E : EK} (k : Q d S) : vr 11 (x0 :: x1 :: x2 :: x3 :: x4 :: x5 :: x6 :: x7 :: x8 :: x9 :: x10 :: some d :: l) S Q E := k
theorem set11 {x0 x1 x2 x3 x4 x5 x6 x7 x8 x9 x10 : Option D} {y : Option D} {l : Ev} {d : D} {S : Sto} {nx : Ev → Sto → Prop} (k : nx (x0 :: x1 :: x2 :: x3 :: x4 :: x5 :: x6 :: x7 :: x8 :: x9 :: x10 :: some d :: l) S) : asgK S (.nm 11) d (x0 :: x1 :: x2 :: x3 :: x4 :: x5 :: x6 :: x7 :: x8 :: x9 :: x10 :: y :: l) nx := k
theorem uns11 {x0 x1 x2 x3 x4 x5 x6 x7 x8 x9 x10 : Option D} {y : Option D} {l : Ev} {k : Ev → Prop} (h : k (x0 :: x1 :: x2 :: x3 :: x4 :: x5 :: x6 :: x7 :: x8 :: x9 :: x10 :: none :: l)) : unsK 11 (x0 :: x1 :: x2 :: x3 :: x4 :: x5 :: x6 :: x7 :: x8 :: x9 :: x10 :: y :: l) k := h
theorem aug11 {x0 x1 x2 x3 x4 x5 x6 x7 x8 x9 x10 : Option D} {l : Ev} {d : D} {S : Sto} {te : TEd} {f : F2} {nx bk ct : Ev → Sto → Prop} {rt : DK} {ex : Xc → Ev → Sto → Prop} (k : te (x0 :: x1 :: x2 :: x3 :: x4 :: x5 :: x6 :: x7 :: x8 :: x9 :: x10 :: some d :: l) S (fun y S1 => f d y S1 fun z S2 => nx (x0 :: x1 :: x2 :: x3 :: x4 :: x5 :: x6 :: x7 :: x8 :: x9 :: x10 :: some z :: l) S2) fun x S1 => ex x (x0 :: x1 :: x2 :: x3 :: x4 :: x5 :: x6 :: x7 :: x8 :: x9 :: x10 :: some d :: l) S1) : sAug 11 te f (x0 :: x1 :: x2 :: x3 :: x4 :: x5 :: x6 :: x7 :: x8 :: x9 :: x10 :: some d :: l) S ⟨nx, rt, bk, ct, ex⟩ := k
theorem vr12 {x0 x1 x2 x3 x4 x5 x6 x7 x8 x9 x10 x11 : Option D} {l : Ev} {d : D} {S : Sto} {Q : DK} {E : EK} (k : Q d S) : vr 12 (x0 :: x1 :: x2 :: x3 :: x4 :: x5 :: x6 :: x7 :: x8 :: x9 :: x10 :: x11 :: some d :: l) S Q E := k
theorem set12 {x0 x1 x2 x3 x4 x5 x6 x7 x8 x9 x10 x11 : Option D} {y : Option D} {l : Ev} {d : D} {S : Sto} {nx : Ev → Sto → Prop} (k : nx (x0 :: x1 :: x2 :: x3 :: x4 :: x5 :: x6 :: x7 :: x8 :: x9 :: x10 :: x11 :: some d :: l) S) : asgK S (.nm 12) d (x0 :: x1 :: x2 :: x3 :: x4 :: x5 :: x6 :: x7 :: x8 :: x9 :: x10 :: x11 :: y :: l) nx := k
theorem uns12 {x0 x1 x2 x3 x4 x5 x6 x7 x8 x9 x10 x11 : Option D} {y : Option D} {l : Ev} {k : Ev → Prop} (h : k (x0 :: x1 :: x2 :: x3 :: x4 :: x5 :: x6 :: x7 :: x8 :: x9 :: x10 :: x11 :: none :: l)) : unsK 12 (x0 :: x1 :: x2 :: x3 :: x4 :: x5 :: x6 :: x7 :: x8 :: x9 :: x10 :: x11 :: y :: l) k := h
theorem aug12 {x0 x1 x2 x3 x4 x5 x6 x7 x8 x9 x10 x11 : Option D} {l : Ev} {d : D} {S : Sto} {te : TEd} {f : F2} {nx bk ct : Ev → Sto → Prop} {rt : DK} {ex : Xc → Ev → Sto → Prop} (k : te (x0 :: x1 :: x2 :: x3 :: x4 :: x5 :: x6 :: x7 :: x8 :: x9 :: x10 :: x11 :: some d :: l) S (fun y S1 => f d y S1 fun z S2 => nx (x0 :: x1 :: x2 :: x3 :: x4 :: x5 :: x6 :: x7 :: x8 :: x9 :: x10 :: x11 :: some z :: l) S2) fun x S1 => ex x (x0 :: x1 :: x2 :: x3 :: x4 :: x5 :: x6 :: x7 :: x8 :: x9 :: x10 :: x11 :: some d :: l) S1) : sAug 12 te f (x0 :: x1 :: x2 :: x3 :: x4 :: x5 :: x6 :: x7 :: x8 :: x9 :: x10 :: x11 :: some d :: l) S ⟨nx, rt, bk, ct, ex⟩ := k
theorem vr13 {x0 x1 x2 x3 x4 x5 x6 x7 x8 x9 x10 x11 x12 : Option D} {l : Ev} {d : D} {S : Sto} {Q : DK} {E : EK} (k : Q d S) : vr 13 (x0 :: x1 :: x2 :: x3 :: x4 :: x5 :: x6 :: x7 :: x8 :: x9 :: x10 :: x11 :: x12 :: some d :: l) S Q E := k
theorem set13 {x0 x1 x2 x3 x4 x5 x6 x7 x8 x9 x10 x11 x12 : Option D} {y : Option D} {l : Ev} {d : D} {S : Sto} {nx : Ev → Sto → Prop} (k : nx (x0 :: x1 :: x2 :: x3 :: x4 :: x5 :: x6 :: x7 :: x8 :: x9 :: x10 :: x11 :: x12 :: some d :: l) S) : asgK S (.nm 13) d (x0 :: x1 :: x2 :: x3 :: x4 :: x5 :: x6 :: x7 :: x8 :: x9 :: x10 :: x11 :: x12 :: y :: l) nx := k
theorem uns13 {x0 x1 x2 x3 x4 x5 x6 x7 x8 x9 x10 x11 x12 : Option D} {y : Option D} {l : Ev} {k : Ev → Prop} (h : k (x0 :: x1 :: x2 :: x3 :: x4 :: x5 :: x6 :: x7 :: x8 :: x9 :: x10 :: x11 :: x12 :: none :: l)) : unsK 13 (x0 :: x1 :: x2 :: x3 :: x4 :: x5 :: x6 :: x7 :: x8 :: x9 :: x10 :: x11 :: x12 :: y :: l) k := h
theorem aug13 {x0 x1 x2 x3 x4 x5 x6 x7 x8 x9 x10 x11 x12 : Option D} {l : Ev} {d : D} {S : Sto} {te : TEd} {f : F2} {nx bk ct : Ev → Sto → Prop} {rt : DK} {ex : Xc → Ev → Sto → Prop} (k : te (x0 :: x1 :: x2 :: x3 :: x4 :: x5 :: x6 :: x7 :: x8 :: x9 :: x10 :: x11 :: x12 :: some d :: l) S (fun y S1 => f d y S1 fun z S2 => nx (x0 :: x1 :: x2 :: x3 :: x4 :: x5 :: x6 :: x7 :: x8 :: x9 :: x10 :: x11 :: x12 :: some z :: l) S2) fun x S1 => ex x (x0 :: x1 :: x2 :: x3 :: x4 :: x5 :: x6 :: x7 :: x8 :: x9 :: x10 :: x11 :: x12 :: some d :: l) S1) : sAug 13 te f (x0 :: x1 :: x2 :: x3 :: x4 :: x5 :: x6 :: x7 :: x8 :: x9 :: x10 :: x11 :: x12 :: some d :: l) S ⟨nx, rt, bk, ct, ex⟩ := k
theorem vr14 {x0 x1 x2 x3 x4 x5 x6 x7 x8 x9 x10 x11 x12 x13 : Option D} {l : Ev} {d : D} {S : Sto} {Q : DK} {E : EK} (k : Q d S) : vr 14 (x0 :: x1 :: x2 :: x3 :: x4 :: x5 :: x6 :: x7 :: x8 :: x9 :: x10 :: x11 :: x12 :: x13 :: some d :: l) S Q E := k
theorem set14 {x0 x1 x2 x3 x4 x5 x6 x7 x8 x9 x10 x11 x12 x13 : Option D} {y : Option D} {l : Ev} {d : D} {S : Sto} {nx : Ev → Sto → Prop} (k : nx (x0 :: x1 :: x2 :: x3 :: x4 :: x5 :: x6 :: x7 :: x8 :: x9 :: x10 :: x11 :: x12 :: x13 :: some d :: l) S) : asgK S (.nm 14) d (x0 :: x1 :: x2 :: x3 :: x4 :: x5 :: x6 :: x7 :: x8 :: x9 :: x10 :: x11 :: x12 :: x13 :: y :: l) nx := k
theorem uns14 {x0 x1 x2 x3 x4 x5 x6 x7 x8 x9 x10 x11 x12 x13 : Option D} {y : Option D} {l : Ev} {k : Ev → Prop} (h : k (x0 :: x1 :: x2 :: x3 :: x4 :: x5 :: x6 :: x7 :: x8 :: x9 :: x10 :: x11 :: x12 :: x13 :: none :: l)) : unsK 14 (x0 :: x1 :: x2 :: x3 :: x4 :: x5 :: x6 :: x7 :: x8 :: x9 :: x10 :: x11 :: x12 :: x13 :: y :: l) k := h
theorem aug14 {x0 x1 x2 x3 x4 x5 x6 x7 x8 x9 x10 x11 x12 x13 : Option D} {l : Ev} {d : D} {S : Sto} {te : TEd} {f : F2} {nx bk ct : Ev → Sto → Prop} {rt : DK} {ex : Xc → Ev → Sto → Prop} (k : te (x0 :: x1 :: x2 :: x3 :: x4 :: x5 :: x6 :: x7 :: x8 :: x9 :: x10 :: x11 :: x12 :: x13 :: some d :: l) S (fun y S1 => f d y S1 fun z S2 => nx (x0 :: x1 :: x2 :: x3 :: x4 :: x5 :: x6 :: x7 :: x8 :: x9 :: x10 :: x11 :: x12 :: x13 :: some z :: l) S2) fun x S1 => ex x (x0 :: x1 :: x2 :: x3 :: x4 :: x5 :: x6 :: x7 :: x8 :: x9 :: x10 :: x11 :: x12 :: x13 :: some d :: l) S1) : sAug 14 te f (x0 :: x1 :: x2 :: x3 :: x4 :: x5 :: x6 :: x7 :: x8 :: x9 :: x10 :: x11 :: x12 :: x13 :: some d :: l) S ⟨nx, rt, bk, ct, ex⟩ := k
theorem vr15 {x0 x1 x2 x3 x4 x5 x6 x7 x8 x9 x10 x11 x12 x13 x14 : Option D} {l : Ev} {d : D} {S : Sto} {Q : DK} {E : EK} (k : Q d S) : vr 15 (x0 :: x1 :: x2 :: x3 :: x4 :: x5 :: x6 :: x7 :: x8 :: x9 :: x10 :: x11 :: x12 :: x13 :: x14 :: some d :: l) S Q E := k
theorem set15 {x0 x1 x2 x3 x4 x5 x6 x7 x8 x9 x10 x11 x12 x13 x14 : Option D} {y : Option D} {l : Ev} {d : D} {S : Sto} {nx : Ev → Sto → Prop} (k : nx (x0 :: x1 :: x2 :: x3 :: x4 :: x5 :: x6 :: x7 :: x8 :: x9 :: x10 :: x11 :: x12 :: x13 :: x14 :: some d :: l) S) : asgK S (.nm 15) d (x0 :: x1 :: x2 :: x3 :: x4 :: x5 :: x6 :: x7 :: x8 :: x9 :: x10 :: x11 :: x12 :: x13 :: x14 :: y :: l) nx := k
theorem uns15 {x0 x1 x2 x3 x4 x5 x6 x7 x8 x9 x10 x11 x12 x13 x14 : Option D} {y : Option D} {l : Ev} {k : Ev → Prop} (h : k (x0 :: x1 :: x2 :: x3 :: x4 :: x5 :: x6 :: x7 :: x8 :: x9 :: x10 :: x11 :: x12 :: x13 :: x14 :: none :: l)) : unsK 15 (x0 :: x1 :: x2 :: x3 :: x4 :: x5 :: x6 :: x7 :: x8 :: x9 :: x10 :: x11 :: x12 :: x13 :: x14 :: y :: l) k := h
theorem aug15 {x0 x1 x2 x3 x4 x5 x6 x7 x8 x9 x10 x11 x12 x13 x14 : Option D} {l : Ev} {d : D} {S : Sto} {te : TEd} {f : F2} {nx bk ct : Ev → Sto → Prop} {rt : DK} {ex : Xc → Ev → Sto → Prop} (k : te (x0 :: x1 :: x2 :: x3 :: x4 :: x5 :: x6 :: x7 :: x8 :: x9 :: x10 :: x11 :: x12 :: x13 :: x14 :: some d :: l) S (fun y S1 => f d y S1 fun z S2 => nx (x0 :: x1 :: x2 :: x3 :: x4 :: x5 :: x6 :: x7 :: x8 :: x9 :: x10 :: x11 :: x12 :: x13 :: x14 :: some z :: l) S2) fun x S1 => ex x (x0 :: x1 :: x2 :: x3 :: x4 :: x5 :: x6 :: x7 :: x8 :: x9 :: x10 :: x11 :: x12 :: x13 :: x14 :: some d :: l) S1) : sAug 15 te f (x0 :: x1 :: x2 :: x3 :: x4 :: x5 :: x6 :: x7 :: x8 :: x9 :: x10 :: x11 :: x12 :: x13 :: x14 :: some d :: l) S ⟨nx, rt, bk, ct, ex⟩ := k
theorem vr16 {x0 x1 x2 x3 x4 x5 x6 x7 x8 x9 x10 x11 x12 x13 x14 x15 : Option D} {l : Ev} {d : D} {S : Sto} {Q : DK} {E : EK} (k : Q d S) : vr 16 (x0 :: x1 :: x2 :: x3 :: x4 :: x5 :: x6 :: x7 :: x8 :: x9 :: x10 :: x11 :: x12 :: x13 :: x14 :: x15 :: some d :: l) S Q E := k
theorem set16 {x0 x1 x2 x3 x4 x5 x6 x7 x8 x9 x10 x11 x12 x13 x14 x15 : Option D} {y : Option D} {l : Ev} {d : D} {S : Sto} {nx : Ev → Sto → Prop} (k : nx (x0 :: x1 :: x2 :: x3 :: x4 :: x5 :: x6 :: x7 :: x8 :: x9 :: x10 :: x11 :: x12 :: x13 :: x14 :: x15 :: some d :: l) S) : asgK S (.nm 16) d (x0 :: x1 :: x2 :: x3 :: x4 :: x5 :: x6 :: x7 :: x8 :: x9 :: x10 :: x11 :: x12 :: x13 :: x14 :: x15 :: y :: l) nx := k
theorem uns16 {x0 x1 x2 x3 x4 x5 x6 x7 x8 x9 x10 x11 x12 x13 x14 x15 : Option D} {y : Option D} {l : Ev} {k : Ev → Prop} (h : k (x0 :: x1 :: x2 :: x3 :: x4 :: x5 :: x6 :: x7 :: x8 :: x9 :: x10 :: x11 :: x12 :: x13 :: x14 :: x15 :: none :: l)) : unsK 16 (x0 :: x1 :: x2 :: x3 :: x4 :: x5 :: x6 :: x7 :: x8 :: x9 :: x10 :: x11 :: x12 :: x13 :: x14 :: x15 :: y :: l) k := h
theorem aug16 {x0 x1 x2 x3 x4 x5 x6 x7 x8 x9 x10 x11 x12 x13 x14 x15 : Option D} {l : Ev} {d : D} {S : Sto} {te : TEd} {f : F2} {nx bk ct : Ev → Sto → Prop} {rt : DK} {ex : Xc → Ev → Sto → Prop} (k : te (x0 :: x1 :: x2 :: x3 :: x4 :: x5 :: x6 :: x7 :: x8 :: x9 :: x10 :: x11 :: x12 :: x13 :: x14 :: x15 :: some d :: l) S (fun y S1 => f d y S1 fun z S2 => nx (x0 :: x1 :: x2 :: x3 :: x4 :: x5 :: x6 :: x7 :: x8 :: x9 :: x10 :: x11 :: x12 :: x13 :: x14 :: x15 :: some z :: l) S2) fun x S1 => ex x (x0 :: x1 :: x2 :: x3 :: x4 :: x5 :: x6 :: x7 :: x8 :: x9 :: x10 :: x11 :: x12 :: x13 :: x14 :: x15 :: some d :: l) S1) : sAug 16 te f (x0 :: x1 :: x2 :: x3 :: x4 :: x5 :: x6 :: x7 :: x8 :: x9 :: x10 :: x11 :: x12 :: x13 :: x14 :: x15 :: some d :: l) S ⟨nx, rt, bk, ct, ex⟩ := k
theorem vr17 {x0 x1 x2 x3 x4 x5 x6 x7 x8 x9 x10 x11 x12 x13 x14 x15 x16 : Option D} {l : Ev} {d : D} {S : Sto} {Q : DK} {E : EK} (k : Q d S) : vr 17 (x0 :: x1 :: x2 :: x3 :: x4 :: x5 :: x6 :: x7 :: x8 :: x9 :: x10 :: x11 :: x12 :: x13 :: x14 :: x15 :: x16 :: some d :: l) S Q E := k
theorem set17 {x0 x1 x2 x3 x4 x5 x6 x7 x8 x9 x10 x11 x12 x13 x14 x15 x16 : Option D} {y : Option D} {l : Ev} {d : D} {S : Sto} {nx : Ev → Sto → Prop} (k : nx (x0 :: x1 :: x2 :: x3 :: x4 :: x5 :: x6 :: x7 :: x8 :: x9 :: x10 :: x11 :: x12 :: x13 :: x14 :: x15 :: x16 :: some d :: l) S) : asgK S (.nm 17) d (x0 :: x1 :: x2 :: x3 :: x4 :: x5 :: x6 :: x7 :: x8 :: x9 :: x10 :: x11 :: x12 :: x13 :: x14 :: x15 :: x16 :: y :: l) nx := k
theorem uns17 {x0 x1 x2 x3 x4 x5 x6 x7 x8 x9 x10 x11 x12 x13 x14 x15 x16 : Option D} {y : Option D} {l : Ev} {k : Ev → Prop} (h : k (x0 :: x1 :: x2 :: x3 :: x4 :: x5 :: x6 :: x7 :: x8 :: x9 :: x10 :: x11 :: x12 :: x13 :: x14 :: x15 :: x16 :: none :: l)) : unsK 17 (x0 :: x1 :: x2 :: x3 :: x4 :: x5 :: x6 :: x7 :: x8 :: x9 :: x10 :: x11 :: x12 :: x13 :: x14 :: x15 :: x16 :: y :: l) k := h
theorem aug17 {x0 x1 x2 x3 x4 x5 x6 x7 x8 x9 x10 x11 x12 x13 x14 x15 x16 : Option D} {l : Ev} {d : D} {S : Sto} {te : TEd} {f : F2} {nx bk ct : Ev → Sto → Prop} {rt : DK} {ex : Xc → Ev → Sto → Prop} (k : te (x0 :: x1 :: x2 :: x3 :: x4 :: x5 :: x6 :: x7 :: x8 :: x9 :: x10 :: x11 :: x12 :: x13 :: x14 :: x15 :: x16 :: some d :: l) S (fun y S1 => f d y S1 fun z S2 => nx (x0 :: x1 :: x2 :: x3 :: x4 :: x5 :: x6 :: x7 :: x8 :: x9 :: x10 :: x11 :: x12 :: x13 :: x14 :: x15 :: x16 :: some z :: l) S2) fun x S1 => ex x (x0 :: x1 :: x2 :: x3 :: x4 :: x5 :: x6 :: x7 :: x8 :: x9 :: x10 :: x11 :: x12 :: x13 :: x14 :: x15 :: x16 :: some d :: l) S1) : sAug 17 te f (x0 :: x1 :: x2 :: x3 :: x4 :: x5 :: x6 :: x7 :: x8 :: x9 :: x10 :: x11 :: x12 :: x13 :: x14 :: x15 :: x16 :: some d :: l) S ⟨nx, rt, bk, ct, ex⟩ := k
theorem vr18 {x0 x1 x2 x3 x4 x5 x6 x7 x8 x9 x10 x11 x12 x13 x14 x15 x16 x17 : Option D} {l : Ev} {d : D} {S : Sto} {Q : DK} {E : EK} (k : Q d S) : vr 18 (x0 :: x1 :: x2 :: x3 :: x4 :: x5 :: x6 :: x7 :: x8 :: x9 :: x10 :: x11 :: x12 :: x13 :: x14 :: x15 :: x16 :: x17 :: some d :: l) S Q E := k
theorem set18 {x0 x1 x2 x3 x4 x5 x6 x7 x8 x9 x10 x11 x12 x13 x14 x15 x16 x17 : Option D} {y : Option D} {l : Ev} {d : D} {S : Sto} {nx : Ev → Sto → Prop} (k : nx (x0 :: x1 :: x2 :: x3 :: x4 :: x5 :: x6 :: x7 :: x8 :: x9 :: x10 :: x11 :: x12 :: x13 :: x14 :: x15 :: x16 :: x17 :: some d :: l) S) : asgK S (.nm 18) d (x0 :: x1 :: x2 :: x3 :: x4 :: x5 :: x6 :: x7 :: x8 :: x9 :: x10 :: x11 :: x12 :: x13 :: x14 :: x15 :: x16 :: x17 :: y :: l) nx := k
theorem uns18 {x0 x1 x2 x3 x4 x5 x6 x7 x8 x9 x10 x11 x12 x13 x14 x15 x16 x17 : Option D} {y : Option D} {l : Ev} {k : Ev → Prop} (h : k (x0 :: x1 :: x2 :: x3 :: x4 :: x5 :: x6 :: x7 :: x8 :: x9 :: x10 :: x11 :: x12 :: x13 :: x14 :: x15 :: x16 :: x17 :: none :: l)) : unsK 18 (x0 :: x1 :: x2 :: x3 :: x4 :: x5 :: x6 :: x7 :: x8 :: x9 :: x10 :: x11 :: x12 :: x13 :: x14 :: x15 :: x16 :: x17 :: y :: l) k := h
theorem aug18 {x0 x1 x2 x3 x4 x5 x6 x7 x8 x9 x10 x11 x12 x13 x14 x15 x16 x17 : Option D} {l : Ev} {d : D} {S : Sto} {te : TEd} {f : F2} {nx bk ct : Ev → Sto → Prop} {rt : DK} {ex : Xc → Ev → Sto → Prop} (k : te (x0 :: x1 :: x2 :: x3 :: x4 :: x5 :: x6 :: x7 :: x8 :: x9 :: x10 :: x11 :: x12 :: x13 :: x14 :: x15 :: x16 :: x17 :: some d :: l) S (fun y S1 => f d y S1 fun z S2 => nx (x0 :: x1 :: x2 :: x3 :: x4 :: x5 :: x6 :: x7 :: x8 :: x9 :: x10 :: x11 :: x12 :: x13 :: x14 :: x15 :: x16 :: x17 :: some z :: l) S2) fun x S1 => ex x (x0 :: x1 :: x2 :: x3 :: x4 :: x5 :: x6 :: x7 :: x8 :: x9 :: x10 :: x11 :: x12 :: x13 :: x14 :: x15 :: x16 :: x17 :: some d :: l) S1) : sAug 18 te f (x0 :: x1 :: x2 :: x3 :: x4 :: x5 :: x6 :: x7 :: x8 :: x9 :: x10 :: x11 :: x12 :: x13 :: x14 :: x15 :: x16 :: x17 :: some d :: l) S ⟨nx, rt, bk, ct, ex⟩ := k
theorem vr19 {x0 x1 x2 x3 x4 x5 x6 x7 x8 x9 x10 x11 x12 x13 x14 x15 x16 x17 x18 : Option D} {l : Ev} {d : D} {S : Sto} {Q : DK} {E : EK} (k : Q d S) : vr 19 (x0 :: x1 :: x2 :: x3 :: x4 :: x5 :: x6 :: x7 :: x8 :: x9 :: x10 :: x11 :: x12 :: x13 :: x14 :: x15 :: x16 :: x17 :: x18 :: some d :: l) S Q E := k
theorem set19 {x0 x1 x2 x3 x4 x5 x6 x7 x8 x9 x10 x11 x12 x13 x14 x15 x16 x17 x18 : Option D} {y : Option D} {l : Ev} {d : D} {S : Sto} {nx : Ev → Sto → Prop} (k : nx (x0 :: x1 :: x2 :: x3 :: x4 :: x5 :: x6 :: x7 :: x8 :: x9 :: x10 :: x11 :: x12 :: x13 :: x14 :: x15 :: x16 :: x17 :: x18 :: some d :: l) S) : asgK S (.nm 19) d (x0 :: x1 :: x2 :: x3 :: x4 :: x5 :: x6 :: x7 :: x8 :: x9 :: x10 :: x11 :: x12 :: x13 :: x14 :: x15 :: x16 :: x17 :: x18 :: y :: l) nx := k
theorem uns19 {x0 x1 x2 x3 x4 x5 x6 x7 x8 x9 x10 x11 x12 x13 x14 x15 x16 x17 x18 : Option D} {y : Option D} {l : Ev} {k : Ev → Prop} (h : k (x0 :: x1 :: x2 :: x3 :: x4 :: x5 :: x6 :: x7 :: x8 :: x9 :: x10 :: x11 :: x12 :: x13 :: x14 :: x15 :: x16 :: x17 :: x18 :: none :: l)) : unsK 19 (x0 :: x1 :: x2 :: x3 :: x4 :: x5 :: x6 :: x7 :: x8 :: x9 :: x10 :: x11 :: x12 :: x13 :: x14 :: x15 :: x16 :: x17 :: x18 :: y :: l) k := h
theorem aug19 {x0 x1 x2 x3 x4 x5 x6 x7 x8 x9 x10 x11 x12 x13 x14 x15 x16 x17 x18 : Option D} {l : Ev} {d : D} {S : Sto} {te : TEd} {f : F2} {nx bk ct : Ev → Sto → Prop} {rt : DK} {ex : Xc → Ev → Sto → Prop} (k : te (x0 :: x1 :: x2 :: x3 :: x4 :: x5 :: x6 :: x7 :: x8 :: x9 :: x10 :: x11 :: x12 :: x13 :: x14 :: x15 :: x16 :: x17 :: x18 :: some d :: l) S (fun y S1 => f d y S1 fun z S2 => nx (x0 :: x1 :: x2 :: x3 :: x4 :: x5 :: x6 :: x7 :: x8 :: x9 :: x10 :: x11 :: x12 :: x13 :: x14 :: x15 :: x16 :: x17 :: x18 :: some z :: l) S2) fun x S1 => ex x (x0 :: x1 :: x2 :: x3 :: x4 :: x5 :: x6 :: x7 :: x8 :: x9 :: x10 :: x11 :: x12 :: x13 :: x14 :: x15 :: x16 :: x17 :: x18 :: some d :: l) S1) : sAug 19 te f (x0 :: x1 :: x2 :: x3 :: x4 :: x5 :: x6 :: x7 :: x8 :: x9 :: x10 :: x11 :: x12 :: x13 :: x14 :: x15 :: x16 :: x17 :: x18 :: some d :: l) S ⟨nx, rt, bk, ct, ex⟩ := k
theorem vr20 {x0 x1 x2 x3 x4 x5 x6 x7 x8 x9 x10 x11 x12 x13 x14 x15 x16 x17 x18 x19 : Option D} {l : Ev} {d : D} {S : Sto} {Q : DK} {E : EK} (k : Q d S) : vr 20 (x0 :: x1 :: x2 :: x3 :: x4 :: x5 :: x6 :: x7 :: x8 :: x9 :: x10 :: x11 :: x12 :: x13 :: x14 :: x15 :: x16 :: x17 :: x18 :: x19 :: some d :: l) S Q E := k
theorem set20 {x0 x1 x2 x3 x4 x5 x6 x7 x8 x9 x10 x11 x12 x13 x14 x15 x16 x17 x18 x19 : Option D} {y : Option D} {l : Ev} {d : D} {S : Sto} {nx : Ev → Sto → Prop} (k : nx (x0 :: x1 :: x2 :: x3 :: x4 :: x5 :: x6 :: x7 :: x8 :: x9 :: x10 :: x11 :: x12 :: x13 :: x14 :: x15 :: x16 :: x17 :: x18 :: x19 :: some d :: l) S) : asgK S (.nm 20) d (x0 :: x1 :: x2 :: x3 :: x4 :: x5 :: x6 :: x7 :: x8 :: x9 :: x10 :: x11 :: x12 :: x13 :: x14 :: x15 :: x16 :: x17 :: x18 :: x19 :: y :: l) nx := k
theorem uns20 {x0 x1 x2 x3 x4 x5 x6 x7 x8 x9 x10 x11 x12 x13 x14 x15 x16 x17 x18 x19 : Option D} {y : Option D} {l : Ev} {k : Ev → Prop} (h : k (x0 :: x1 :: x2 :: x3 :: x4 :: x5 :: x6 :: x7 :: x8 :: x9 :: x10 :: x11 :: x12 :: x13 :: x14 :: x15 :: x16 :: x17 :: x18 :: x19 :: none :: l)) : unsK 20 (x0 :: x1 :: x2 :: x3 :: x4 :: x5 :: x6 :: x7 :: x8 :: x9 :: x10 :: x11 :: x12 :: x13 :: x14 :: x15 :: x16 :: x17 :: x18 :: x19 :: y :: l) k := h
theorem aug20 {x0 x1 x2 x3 x4 x5 x6 x7 x8 x9 x10 x11 x12 x13 x14 x15 x16 x17 x18 x19 : Option D} {l : Ev} {d : D} {S : Sto} {te : TEd} {f : F2} {nx bk ct : Ev → Sto → Prop} {rt : DK} {ex : Xc → Ev → Sto → Prop} (k : te (x0 :: x1 :: x2 :: x3 :: x4 :: x5 :: x6 :: x7 :: x8 :: x9 :: x10 :: x11 :: x12 :: x13 :: x14 :: x15 :: x16 :: x17 :: x18 :: x19 :: some d :: l) S (fun y S1 => f d y S1 fun z S2 => nx (x0 :: x1 :: x2 :: x3 :: x4 :: x5 :: x6 :: x7 :: x8 :: x9 :: x10 :: x11 :: x12 :: x13 :: x14 :: x15 :: x16 :: x17 :: x18 :: x19 :: some z :: l) S2) fun x S1 => ex x (x0 :: x1 :: x2 :: x3 :: x4 :: x5 :: x6 :: x7 :: x8 :: x9 :: x10 :: x11 :: x12 :: x13 :: x14 :: x15 :: x16 :: x17 :: x18 :: x19 :: some d :: l) S1) : sAug 20 te f (x0 :: x1 :: x2 :: x3 :: x4 :: x5 :: x6 :: x7 :: x8 :: x9 :: x10 :: x11 :: x12 :: x13 :: x14 :: x15 :: x16 :: x17 :: x18 :: x19 :: some d :: l) S ⟨nx, rt, bk, ct, ex⟩ := k
theorem vr21 {x0 x1 x2 x3 x4 x5 x6 x7 x8 x9 x10 x11 x12 x13 x14 x15 x16 x17 x18 x19 x20 : Option D} {l : Ev} {d : D} {S : Sto} {Q : DK} {E : EK} (k : Q d S) : vr 21 (x0 :: x1 :: x2 :: x3 :: x4 :: x5 :: x6 :: x7 :: x8 :: x9 :: x10 :: x11 :: x12 :: x13 :: x14 :: x15 :: x16 :: x17 :: x18 :: x19 :: x20 :: some d :: l) S Q E := k
theorem set21 {x0 x1 x2 x3 x4 x5 x6 x7 x8 x9 x10 x11 x12 x13 x14 x15 x16 x17 x18 x19 x20 : Option D} {y : Option D} {l : Ev} {d : D} {S : Sto} {nx : Ev → Sto → Prop} (k : nx (x0 :: x1 :: x2 :: x3 :: x4 :: x5 :: x6 :: x7 :: x8 :: x9 :: x10 :: x11 :: x12 :: x13 :: x14 :: x15 :: x16 :: x17 :: x18 :: x19 :: x20 :: some d :: l) S) : asgK S (.nm 21) d (x0 :: x1 :: x2 :: x3 :: x4 :: x5 :: x6 :: x7 :: x8 :: x9 :: x10 :: x11 :: x12 :: x13 :: x14 :: x15 :: x16 :: x17 :: x18 :: x19 :: x20 :: y :: l) nx := k
theorem uns21 {x0 x1 x2 x3 x4 x5 x6 x7 x8 x9 x10 x11 x12 x13 x14 x15 x16 x17 x18 x19 x20 : Option D} {y : Option D} {l : Ev} {k : Ev → Prop} (h : k (x0 :: x1 :: x2 :: x3 :: x4 :: x5 :: x6 :: x7 :: x8 :: x9 :: x10 :: x11 :: x12 :: x13 :: x14 :: x15 :: x16 :: x17 :: x18 :: x19 :: x20 :: none :: l)) : unsK 21 (x0 :: x1 :: x2 :: x3 :: x4 :: x5 :: x6 :: x7 :: x8 :: x9 :: x10 :: x11 :: x12 :: x13 :: x14 :: x15 :: x16 :: x17 :: x18 :: x19 :: x20 :: y :: l) k := h
theorem aug21 {x0 x1 x2 x3 x4 x5 x6 x7 x8 x9 x10 x11 x12 x13 x14 x15 x16 x17 x18 x19 x20 : Option D} {l : Ev} {d : D} {S : Sto} {te : TEd} {f : F2} {nx bk ct : Ev → Sto → Prop} {rt : DK} {ex : Xc → Ev → Sto → Prop} (k : te (x0 :: x1 :: x2 :: x3 :: x4 :: x5 :: x6 :: x7 :: x8 :: x9 :: x10 :: x11 :: x12 :: x13 :: x14 :: x15 :: x16 :: x17 :: x18 :: x19 :: x20 :: some d :: l) S (fun y S1 => f d y S1 fun z S2 => nx (x0 :: x1 :: x2 :: x3 :: x4 :: x5 :: x6 :: x7 :: x8 :: x9 :: x10 :: x11 :: x12 :: x13 :: x14 :: x15 :: x16 :: x17 :: x18 :: x19 :: x20 :: some z :: l) S2) fun x S1 => ex x (x0 :: x1 :: x2 :: x3 :: x4 :: x5 :: x6 :: x7 :: x8 :: x9 :: x10 :: x11 :: x12 :: x13 :: x14 :: x15 :: x16 :: x17 :: x18 :: x19 :: x20 :: some d :: l) S1) : sAug 21 te f (x0 :: x1 :: x2 :: x3 :: x4 :: x5 :: x6 :: x7 :: x8 :: x9 :: x10 :: x11 :: x12 :: x13 :: x14 :: x15 :: x16 :: x17 :: x18 :: x19 :: x20 :: some d :: l) S ⟨nx, rt, bk, ct, ex⟩ := k
theorem vr22 {x0 x1 x2 x3 x4 x5 x6 x7 x8 x9 x10 x11 x12 x13 x14 x15 x16 x17 x18 x19 x20 x21 : Option D} {l : Ev} {d : D} {S : Sto} {Q : DK} {E : EK} (k : Q d S) : vr 22 (x0 :: x1 :: x2 :: x3 :: x4 :: x5 :: x6 :: x7 :: x8 :: x9 :: x10 :: x11 :: x12 :: x13 :: x14 :: x15 :: x16 :: x17 :: x18 :: x19 :: x20 :: x21 :: some d :: l) S Q E := k
theorem set22 {x0 x1 x2 x3 x4 x5 x6 x7 x8 x9 x10 x11 x12 x13 x14 x15 x16 x17 x18 x19 x20 x21 : Option D} {y : Option D} {l : Ev} {d : D} {S : Sto} {nx : Ev → Sto → Prop} (k : nx (x0 :: x1 :: x2 :: x3 :: x4 :: x5 :: x6 :: x7 :: x8 :: x9 :: x10 :: x11 :: x12 :: x13 :: x14 :: x15 :: x16 :: x17 :: x18 :: x19 :: x20 :: x21 :: some d :: l) S) : asgK S (.nm 22) d (x0 :: x1 :: x2 :: x3 :: x4 :: x5 :: x6 :: x7 :: x8 :: x9 :: x10 :: x11 :: x12 :: x13 :: x14 :: x15 :: x16 :: x17 :: x18 :: x19 :: x20 :: x21 :: y :: l) nx := k
theorem uns22 {x0 x1 x2 x3 x4 x5 x6 x7 x8 x9 x10 x11 x12 x13 x14 x15 x16 x17 x18 x19 x20 x21 : Option D} {y : Option D} {l : Ev} {k : Ev → Prop} (h : k (x0 :: x1 :: x2 :: x3 :: x4 :: x5 :: x6 :: x7 :: x8 :: x9 :: x10 :: x11 :: x12 :: x13 :: x14 :: x15 :: x16 :: x17 :: x18 :: x19 :: x20 :: x21 :: none :: l)) : unsK 22 (x0 :: x1 :: x2 :: x3 :: x4 :: x5 :: x6 :: x7 :: x8 :: x9 :: x10 :: x11 :: x12 :: x13 :: x14 :: x15 :: x16 :: x17 :: x18 :: x19 :: x20 :: x21 :: y :: l) k := h
theorem aug22 {x0 x1 x2 x3 x4 x5 x6 x7 x8 x9 x10 x11 x12 x13 x14 x15 x16 x17 x18 x19 x20 x21 : Option D} {l : Ev} {d : D} {S : Sto} {te : TEd} {f : F2} {nx bk ct : Ev → Sto → Prop} {rt : DK} {ex : Xc → Ev → Sto → Prop} (k : te (x0 :: x1 :: x2 :: x3 :: x4 :: x5 :: x6 :: x7 :: x8 :: x9 :: x10 :: x11 :: x12 :: x13 :: x14 :: x15 :: x16 :: x17 :: x18 :: x19 :: x20 :: x21 :: some d :: l) S (fun y S1 => f d y S1 fun z S2 => nx (x0 :: x1 :: x2 :: x3 :: x4 :: x5 :: x6 :: x7 :: x8 :: x9 :: x10 :: x11 :: x12 :: x13 :: x14 :: x15 :: x16 :: x17 :: x18 :: x19 :: x20 :: x21 :: some z :: l) S2) fun x S1 => ex x (x0 :: x1 :: x2 :: x3 :: x4 :: x5 :: x6 :: x7 :: x8 :: x9 :: x10 :: x11 :: x12 :: x13 :: x14 :: x15 :: x16 :: x17 :: x18 :: x19 :: x20 :: x21 :: some d :: l) S1) : sAug 22 te f (x0 :: x1 :: x2 :: x3 :: x4 :: x5 :: x6 :: x7 :: x8 :: x9 :: x10 :: x11 :: x12 :: x13 :: x14 :: x15 :: x16 :: x17 :: x18 :: x19 :: x20 :: x21 :: some d :: l) S ⟨nx, rt, bk, ct, ex⟩ := k
theorem vr23 {x0 x1 x2 x3 x4 x5 x6 x7 x8 x9 x10 x11 x12 x13 x14 x15 x16 x17 x18 x19 x20 x21 x22 : Option D} {l : Ev} {d : D} {S : Sto} {Q : DK} {E : EK} (k : Q d S) : vr 23 (x0 :: x1 :: x2 :: x3 :: x4 :: x5 :: x6 :: x7 :: x8 :: x9 :: x10 :: x11 :: x12 :: x13 :: x14 :: x15 :: x16 :: x17 :: x18 :: x19 :: x20 :: x21 :: x22 :: some d :: l) S Q E := k
theorem set23 {x0 x1 x2 x3 x4 x5 x6 x7 x8 x9 x10 x11 x12 x13 x14 x15 x16 x17 x18 x19 x20 x21 x22 : Option D} {y : Option D} {l : Ev} {d : D} {S : Sto} {nx : Ev → Sto → Prop} (k : nx (x0 :: x1 :: x2 :: x3 :: x4 :: x5 :: x6 :: x7 :: x8 :: x9 :: x10 :: x11 :: x12 :: x13 :: x14 :: x15 :: x16 :: x17 :: x18 :: x19 :: x20 :: x21 :: x22 :: some d :: l) S) : asgK S (.nm 23) d (x0 :: x1 :: x2 :: x3 :: x4 :: x5 :: x6 :: x7 :: x8 :: x9 :: x10 :: x11 :: x12 :: x13 :: x14 :: x15 :: x16 :: x17 :: x18 :: x19 :: x20 :: x21 :: x22 :: y :: l) nx := k
theorem uns23 {x0 x1 x2 x3 x4 x5 x6 x7 x8 x9 x10 x11 x12 x13 x14 x15 x16 x17 x18 x19 x20 x21 x22 : Option D} {y : Option D} {l : Ev} {k : Ev → Prop} (h : k (x0 :: x1 :: x2 :: x3 :: x4 :: x5 :: x6 :: x7 :: x8 :: x9 :: x10 :: x11 :: x12 :: x13 :: x14 :: x15 :: x16 :: x17 :: x18 :: x19 :: x20 :: x21 :: x22 :: none :: l)) : unsK 23 (x0 :: x1 :: x2 :: x3 :: x4 :: x5 :: x6 :: x7 :: x8 :: x9 :: x10 :: x11 :: x12 :: x13 :: x14 :: x15 :: x16 :: x17 :: x18 :: x19 :: x20 :: x21 :: x22 :: y :: l) k := h
theorem aug23 {x0 x1 x2 x3 x4 x5 x6 x7 x8 x9 x10 x11 x12 x13 x14 x15 x16 x17 x18 x19 x20 x21 x22 : Option D} {l : Ev} {d : D} {S : Sto} {te : TEd} {f : F2} {nx bk ct : Ev → Sto → Prop} {rt : DK} {ex : Xc → Ev → Sto → Prop} (k : te (x0 :: x1 :: x2 :: x3 :: x4 :: x5 :: x6 :: x7 :: x8 :: x9 :: x10 :: x11 :: x12 :: x13 :: x14 :: x15 :: x16 :: x17 :: x18 :: x19 :: x20 :: x21 :: x22 :: some d :: l) S (fun y S1 => f d y S1 fun z S2 => nx (x0 :: x1 :: x2 :: x3 :: x4 :: x5 :: x6 :: x7 :: x8 :: x9 :: x10 :: x11 :: x12 :: x13 :: x14 :: x15 :: x16 :: x17 :: x18 :: x19 :: x20 :: x21 :: x22 :: some z :: l) S2) fun x S1 => ex x (x0 :: x1 :: x2 :: x3 :: x4 :: x5 :: x6 :: x7 :: x8 :: x9 :: x10 :: x11 :: x12 :: x13 :: x14 :: x15 :: x16 :: x17 :: x18 :: x19 :: x20 :: x21 :: x22 :: some d :: l) S1) : sAug 23 te f (x0 :: x1 :: x2 :: x3 :: x4 :: x5 :: x6 :: x7 :: x8 :: x9 :: x10 :: x11 :: x12 :: x13 :: x14 :: x15 :: x16 :: x17 :: x18 :: x19 :: x20 :: x21 :: x22 :: some d :: l) S ⟨nx, rt, bk, ct, ex⟩ := k
theorem ixT0 {ds : List D} {d : D} {S : Sto} {Q : DK} (k : Q d S) : fIx (.tup (d :: ds)) (.int 0) S Q := ixT (atI_nat (j := 0) rfl) k
theorem ixL0 {ds : List D} {d : D} {S : Sto} {Q : DK} (k : Q d S) : fIx (.lst (d :: ds)) (.int 0) S Q := ixL (atI_nat (j := 0) rfl) k
theorem ixT1 {x0 : D} {ds : List D} {d : D} {S : Sto} {Q : DK} (k : Q d S) : fIx (.tup (x0 :: d :: ds)) (.int 1) S Q := ixT (atI_nat (j := 1) rfl) k
theorem ixL1 {x0 : D} {ds : List D} {d : D} {S : Sto} {Q : DK} (k : Q d S) : fIx (.lst (x0 :: d :: ds)) (.int 1) S Q := ixL (atI_nat (j := 1) rfl) k
theorem ixT2 {x0 x1 : D} {ds : List D} {d : D} {S : Sto} {Q : DK} (k : Q d S) : fIx (.tup (x0 :: x1 :: d :: ds)) (.int 2) S Q := ixT (atI_nat (j := 2) rfl) k
theorem ixL2 {x0 x1 : D} {ds : List D} {d : D} {S : Sto} {Q : DK} (k : Q d S) : fIx (.lst (x0 :: x1 :: d :: ds)) (.int 2) S Q := ixL (atI_nat (j := 2) rfl) k
theorem ixT3 {x0 x1 x2 : D} {ds : List D} {d : D} {S : Sto} {Q : DK} (k : Q d S) : fIx (.tup (x0 :: x1 :: x2 :: d :: ds)) (.int 3) S Q := ixT (atI_nat (j := 3) rfl) k
theorem ixL3 {x0 x1 x2 : D} {ds : List D} {d : D} {S : Sto} {Q : DK} (k : Q d S) : fIx (.lst (x0 :: x1 :: x2 :: d :: ds)) (.int 3) S Q := ixL (atI_nat (j := 3) rfl) k
theorem ixT4 {x0 x1 x2 x3 : D} {ds : List D} {d : D} {S : Sto} {Q : DK} (k : Q d S) : fIx (.tup (x0 :: x1 :: x2 :: x3 :: d :: ds)) (.int 4) S Q := ixT (atI_nat (j := 4) rfl) k
theorem ixL4 {x0 x1 x2 x3 : D} {ds : List D} {d : D} {S : Sto} {Q : DK} (k : Q d S) : fIx (.lst (x0 :: x1 :: x2 :: x3 :: d :: ds)) (.int 4) S Q := ixL (atI_nat (j := 4) rfl) k
theorem ixT5 {x0 x1 x2 x3 x4 : D} {ds : List D} {d : D} {S : Sto} {Q : DK} (k : Q d S) : fIx (.tup (x0 :: x1 :: x2 :: x3 :: x4 :: d :: ds)) (.int 5) S Q := ixT (atI_nat (j := 5) rfl) k
theorem ixL5 {x0 x1 x2 x3 x4 : D} {ds : List D} {d : D} {S : Sto} {Q : DK} (k : Q d S) : fIx (.lst (x0 :: x1 :: x2 :: x3 :: x4 :: d :: ds)) (.int 5) S Q := ixL (atI_nat (j := 5) rfl) k
theorem ixT6 {x0 x1 x2 x3 x4 x5 : D} {ds : List D} {d : D} {S : Sto} {Q : DK} (k : Q d S) : fIx (.tup (x0 :: x1 :: x2 :: x3 :: x4 :: x5 :: d :: ds)) (.int 6) S Q := ixT (atI_nat (j := 6) rfl) k
theorem ixL6 {x0 x1 x2 x3 x4 x5 : D} {ds : List D} {d : D} {S : Sto} {Q : DK} (k : Q d S) : fIx (.lst (x0 :: x1 :: x2 :: x3 :: x4 :: x5 :: d :: ds)) (.int 6) S Q := ixL (atI_nat (j := 6) rfl) k
theorem ixT7 {x0 x1 x2 x3 x4 x5 x6 : D} {ds : List D} {d : D} {S : Sto} {Q : DK} (k : Q d S) : fIx (.tup (x0 :: x1 :: x2 :: x3 :: x4 :: x5 :: x6 :: d :: ds)) (.int 7) S Q := ixT (atI_nat (j := 7) rfl) k
theorem ixL7 {x0 x1 x2 x3 x4 x5 x6 : D} {ds : List D} {d : D} {S : Sto} {Q : DK} (k : Q d S) : fIx (.lst (x0 :: x1 :: x2 :: x3 :: x4 :: x5 :: x6 :: d :: ds)) (.int 7) S Q := ixL (atI_nat (j := 7) rfl) k
theorem startup0 {r : List D} {gs : List Tg} {env : Ev} {S : Sto} {nx : Ev → Sto → Prop} (k : asgLK S gs [.lst r] env nx) : starK 0 0 gs (.tup (r)) env S nx := starG rfl (by simp) (by simp [starD]) k
theorem starlst0 {r : List D} {gs : List Tg} {env : Ev} {S : Sto} {nx : Ev → Sto → Prop} (k : asgLK S gs [.lst r] env nx) : starK 0 0 gs (.lst (r)) env S nx := starG rfl (by simp) (by simp [starD]) k
theorem startup1 {x0 : D} {r : List D} {gs : List Tg} {env : Ev} {S : Sto} {nx : Ev → Sto → Prop} (k : asgLK S gs [x0, .lst r] env nx) : starK 1 0 gs (.tup (x0 :: r)) env S nx := starG rfl (by simp) (by simp [starD]) k
theorem starlst1 {x0 : D} {r : List D} {gs : List Tg} {env : Ev} {S : Sto} {nx : Ev → Sto → Prop} (k : asgLK S gs [x0, .lst r] env nx) : starK 1 0 gs (.lst (x0 :: r)) env S nx := starG rfl (by simp) (by simp [starD]) k
theorem startup2 {x0 x1 : D} {r : List D} {gs : List Tg} {env : Ev} {S : Sto} {nx : Ev → Sto → Prop} (k : asgLK S gs [x0, x1, .lst r] env nx) : starK 2 0 gs (.tup (x0 :: x1 :: r)) env S nx := starG rfl (by simp) (by simp [starD]) k
theorem starlst2 {x0 x1 : D} {r : List D} {gs : List Tg} {env : Ev} {S : Sto} {nx : Ev → Sto → Prop} (k : asgLK S gs [x0, x1, .lst r] env nx) : starK 2 0 gs (.lst (x0 :: x1 :: r)) env S nx := starG rfl (by simp) (by simp [starD]) k
theorem startup3 {x0 x1 x2 : D} {r : List D} {gs : List Tg} {env : Ev} {S : Sto} {nx : Ev → Sto → Prop} (k : asgLK S gs [x0, x1, x2, .lst r] env nx) : starK 3 0 gs (.tup (x0 :: x1 :: x2 :: r)) env S nx := starG rfl (by simp) (by simp [starD]) k
theorem starlst3 {x0 x1 x2 : D} {r : List D} {gs : List Tg} {env : Ev} {S : Sto} {nx : Ev → Sto → Prop} (k : asgLK S gs [x0, x1, x2, .lst r] env nx) : starK 3 0 gs (.lst (x0 :: x1 :: x2 :: r)) env S nx := starG rfl (by simp) (by simp [starD]) k
theorem startup4 {x0 x1 x2 x3 : D} {r : List D} {gs : List Tg} {env : Ev} {S : Sto} {nx : Ev → Sto → Prop} (k : asgLK S gs [x0, x1, x2, x3, .lst r] env nx) : starK 4 0 gs (.tup (x0 :: x1 :: x2 :: x3 :: r)) env S nx := starG rfl (by simp) (by simp [starD]) k
theorem starlst4 {x0 x1 x2 x3 : D} {r : List D} {gs : List Tg} {env : Ev} {S : Sto} {nx : Ev → Sto → Prop} (k : asgLK S gs [x0, x1, x2, x3, .lst r] env nx) : starK 4 0 gs (.lst (x0 :: x1 :: x2 :: x3 :: r)) env S nx := starG rfl (by simp) (by simp [starD]) k
theorem entup0 {S : Sto} {Q : List D → Sto → Prop} (k : Q [] S) : enumK (.tup []) S Q := k
theorem enlst0 {S : Sto} {Q : List D → Sto → Prop} (k : Q [] S) : enumK (.lst []) S Q := k
theorem entup1 {x0 : D} {S : Sto} {Q : List D → Sto → Prop} (k : Q [.tup [.int 0, x0]] S) : enumK (.tup [x0]) S Q := k
theorem enlst1 {x0 : D} {S : Sto} {Q : List D → Sto → Prop} (k : Q [.tup [.int 0, x0]] S) : enumK (.lst [x0]) S Q := k
theorem entup2 {x0 x1 : D} {S : Sto} {Q : List D → Sto → Prop} (k : Q [.tup [.int 0, x0], .tup [.int 1, x1]] S) : enumK (.tup [x0, x1]) S Q := k
theorem enlst2 {x0 x1 : D} {S : Sto} {Q : List D → Sto → Prop} (k : Q [.tup [.int 0, x0], .tup [.int 1, x1]] S) : enumK (.lst [x0, x1]) S Q := k
theorem entup3 {x0 x1 x2 : D} {S : Sto} {Q : List D → Sto → Prop} (k : Q [.tup [.int 0, x0], .tup [.int 1, x1], .tup [.int 2, x2]] S) : enumK (.tup [x0, x1, x2]) S Q := k
theorem enlst3 {x0 x1 x2 : D} {S : Sto} {Q : List D → Sto → Prop} (k : Q [.tup [.int 0, x0], .tup [.int 1, x1], .tup [.int 2, x2]] S) : enumK (.lst [x0, x1, x2]) S Q := k
theorem entup4 {x0 x1 x2 x3 : D} {S : Sto} {Q : List D → Sto → Prop} (k : Q [.tup [.int 0, x0], .tup [.int 1, x1], .tup [.int 2, x2], .tup [.int 3, x3]] S) : enumK (.tup [x0, x1, x2, x3]) S Q := k
theorem enlst4 {x0 x1 x2 x3 : D} {S : Sto} {Q : List D → Sto → Prop} (k : Q [.tup [.int 0, x0], .tup [.int 1, x1], .tup [.int 2, x2], .tup [.int 3, x3]] S) : enumK (.lst [x0, x1, x2, x3]) S Q := k
theorem entup5 {x0 x1 x2 x3 x4 : D} {S : Sto} {Q : List D → Sto → Prop} (k : Q [.tup [.int 0, x0], .tup [.int 1, x1], .tup [.int 2, x2], .tup [.int 3, x3], .tup [.int 4, x4]] S) : enumK (.tup [x0, x1, x2, x3, x4]) S Q := k
theorem enlst5 {x0 x1 x2 x3 x4 : D} {S : Sto} {Q : List D → Sto → Prop} (k : Q [.tup [.int 0, x0], .tup [.int 1, x1], .tup [.int 2, x2], .tup [.int 3, x3], .tup [.int 4, x4]] S) : enumK (.lst [x0, x1, x2, x3, x4]) S Q := k
theorem entup6 {x0 x1 x2 x3 x4 x5 : D} {S : Sto} {Q : List D → Sto → Prop} (k : Q [.tup [.int 0, x0], .tup [.int 1, x1], .tup [.int 2, x2], .tup [.int 3, x3], .tup [.int 4, x4], .tup [.int 5, x5]] S) : enumK (.tup [x0, x1, x2, x3, x4, x5]) S Q := k
theorem enlst6 {x0 x1 x2 x3 x4 x5 : D} {S : Sto} {Q : List D → Sto → Prop} (k : Q [.tup [.int 0, x0], .tup [.int 1, x1], .tup [.int 2, x2], .tup [.int 3, x3], .tup [.int 4, x4], .tup [.int 5, x5]] S) : enumK (.lst [x0, x1, x2, x3, x4, x5]) S Q := k
theorem slfT1 {x0 : D} {r : List D} {S : Sto} {Q : DK} (k : Q (.tup r) S) : fSl (.tup (x0 :: r)) (some 1) none S Q := slT (by unfold Bl.cutD HT.sIx; simp) k
theorem sltT1 {x0 : D} {r : List D} {S : Sto} {Q : DK} (k : Q (.tup [x0]) S) : fSl (.tup (x0 :: r)) none (some 1) S Q := slT (by unfold Bl.cutD HT.sIx; simp) k
theorem slfT2 {x0 x1 : D} {r : List D} {S : Sto} {Q : DK} (k : Q (.tup r) S) : fSl (.tup (x0 :: x1 :: r)) (some 2) none S Q := slT (by unfold Bl.cutD HT.sIx; simp) k
theorem sltT2 {x0 x1 : D} {r : List D} {S : Sto} {Q : DK} (k : Q (.tup [x0, x1]) S) : fSl (.tup (x0 :: x1 :: r)) none (some 2) S Q := slT (by unfold Bl.cutD HT.sIx; simp) k
theorem slfT3 {x0 x1 x2 : D} {r : List D} {S : Sto} {Q : DK} (k : Q (.tup r) S) : fSl (.tup (x0 :: x1 :: x2 :: r)) (some 3) none S Q := slT (by unfold Bl.cutD HT.sIx; simp) k
theorem sltT3 {x0 x1 x2 : D} {r : List D} {S : Sto} {Q : DK} (k : Q (.tup [x0, x1, x2]) S) : fSl (.tup (x0 :: x1 :: x2 :: r)) none (some 3) S Q := slT (by unfold Bl.cutD HT.sIx; simp) k
theorem slfT4 {x0 x1 x2 x3 : D} {r : List D} {S : Sto} {Q : DK} (k : Q (.tup r) S) : fSl (.tup (x0 :: x1 :: x2 :: x3 :: r)) (some 4) none S Q := slT (by unfold Bl.cutD HT.sIx; simp) k
theorem sltT4 {x0 x1 x2 x3 : D} {r : List D} {S : Sto} {Q : DK} (k : Q (.tup [x0, x1, x2, x3]) S) : fSl (.tup (x0 :: x1 :: x2 :: x3 :: r)) none (some 4) S Q := slT (by unfold Bl.cutD HT.sIx; simp) k
theorem slfL1 {x0 : D} {r : List D} {S : Sto} {Q : DK} (k : Q (.lst r) S) : fSl (.lst (x0 :: r)) (some 1) none S Q := slL (by unfold Bl.cutD HT.sIx; simp) k
theorem sltL1 {x0 : D} {r : List D} {S : Sto} {Q : DK} (k : Q (.lst [x0]) S) : fSl (.lst (x0 :: r)) none (some 1) S Q := slL (by unfold Bl.cutD HT.sIx; simp) k
theorem slfL2 {x0 x1 : D} {r : List D} {S : Sto} {Q : DK} (k : Q (.lst r) S) : fSl (.lst (x0 :: x1 :: r)) (some 2) none S Q := slL (by unfold Bl.cutD HT.sIx; simp) k
theorem sltL2 {x0 x1 : D} {r : List D} {S : Sto} {Q : DK} (k : Q (.lst [x0, x1]) S) : fSl (.lst (x0 :: x1 :: r)) none (some 2) S Q := slL (by unfold Bl.cutD HT.sIx; simp) k
theorem slfL3 {x0 x1 x2 : D} {r : List D} {S : Sto} {Q : DK} (k : Q (.lst r) S) : fSl (.lst (x0 :: x1 :: x2 :: r)) (some 3) none S Q := slL (by unfold Bl.cutD HT.sIx; simp) k
theorem sltL3 {x0 x1 x2 : D} {r : List D} {S : Sto} {Q : DK} (k : Q (.lst [x0, x1, x2]) S) : fSl (.lst (x0 :: x1 :: x2 :: r)) none (some 3) S Q := slL (by unfold Bl.cutD HT.sIx; simp) k
theorem slfL4 {x0 x1 x2 x3 : D} {r : List D} {S : Sto} {Q : DK} (k : Q (.lst r) S) : fSl (.lst (x0 :: x1 :: x2 :: x3 :: r)) (some 4) none S Q := slL (by unfold Bl.cutD HT.sIx; simp) k
theorem sltL4 {x0 x1 x2 x3 : D} {r : List D} {S : Sto} {Q : DK} (k : Q (.lst [x0, x1, x2, x3]) S) : fSl (.lst (x0 :: x1 :: x2 :: x3 :: r)) none (some 4) S Q := slL (by unfold Bl.cutD HT.sIx; simp) k
theorem startup_2 {x0 x1 : D} {gs : List Tg} {env : Ev} {S : Sto} {nx : Ev → Sto → Prop} (k : asgLK S gs [.lst [], x0, x1] env nx) : starK 0 2 gs (.tup [x0, x1]) env S nx := starG rfl (by simp) rfl k
theorem starlst_2 {x0 x1 : D} {gs : List Tg} {env : Ev} {S : Sto} {nx : Ev → Sto → Prop} (k : asgLK S gs [.lst [], x0, x1] env nx) : starK 0 2 gs (.lst [x0, x1]) env S nx := starG rfl (by simp) rfl k
theorem startup_3 {x0 x1 x2 : D} {gs : List Tg} {env : Ev} {S : Sto} {nx : Ev → Sto → Prop} (k : asgLK S gs [.lst [x0], x1, x2] env nx) : starK 0 2 gs (.tup [x0, x1, x2]) env S nx := starG rfl (by simp) rfl k
theorem starlst_3 {x0 x1 x2 : D} {gs : List Tg} {env : Ev} {S : Sto} {nx : Ev → Sto → Prop} (k : asgLK S gs [.lst [x0], x1, x2] env nx) : starK 0 2 gs (.lst [x0, x1, x2]) env S nx := starG rfl (by simp) rfl k
theorem startup_4 {x0 x1 x2 x3 : D} {gs : List Tg} {env : Ev} {S : Sto} {nx : Ev → Sto → Prop} (k : asgLK S gs [.lst [x0, x1], x2, x3] env nx) : starK 0 2 gs (.tup [x0, x1, x2, x3]) env S nx := starG rfl (by simp) rfl k
theorem starlst_4 {x0 x1 x2 x3 : D} {gs : List Tg} {env : Ev} {S : Sto} {nx : Ev → Sto → Prop} (k : asgLK S gs [.lst [x0, x1], x2, x3] env nx) : starK 0 2 gs (.lst [x0, x1, x2, x3]) env S nx := starG rfl (by simp) rfl k
end Go

/-! list + list, whatever kind of list -/
namespace PySem.AutoSeq1
end PySem.AutoSeq1
namespace Bl
open PySem PySem.Spec PyProof.Rows L2
section
variable {X : Cx}
def fCat : F2 := fun x y S Q => match x, y with
  | .lst a, .lst b => a.length + b.length ≤ sizeLine ∧ Q (.lst (a ++ b)) S
  | _, _ => False
theorem moCat : MoF2 fCat := by (intro x y S Q Q' h q; unfold fCat at q ⊢; split at q <;> first | exact h _ _ q | exact ⟨q.1, h _ _ q.2⟩ | exact ⟨q.1, q.2.1, h _ _ q.2.2⟩ | exact q.elim)
theorem lst_sq {K : Kz} {S : Sto} {H : Hp} {ds : List D} {v : V} (h : Rp K S H (.lst ds) v) : ∃ a vs, v = .ref a ∧ SqL K.K H a vs ∧ RpL K S H ds vs := by
  cases h with
  | lst h1 _ _ h2 => exact ⟨_, _, rfl, .inl h1, h2⟩
  | lstK h1 h2 => exact ⟨_, _, rfl, SqL.ofK h1, h2⟩
end
/-! ### sorted, of whole numbers, of a list that is grown too -/
end Bl

/-! sorted(set(..)) of whole numbers -/
namespace Bl
open PySem PySem.Spec PyProof.Rows L2
section
variable {P : Program} {w : World} {A : Around} {E : Value → Shared → Prop} {s : Shared}
end
end Bl

namespace Bl
open PySem PySem.Spec PyProof.Rows L2
section
variable {X : Cx}
end
/-- whole numbers of a list, grown or not -/
def setK (d : D) (S : Sto) (Q : DK) : Prop := match itemsOf S d with
  | some xs => (match intsOf xs with | some ns => ns.length < 64 ∧ ∀ ms : List Int, ms.Pairwise (· < ·) → (∀ k, k ∈ ms ↔ k ∈ ns) → Q (.lst (ms.map D.int)) S | none => False)
  | none => False
def notTup : D → Bool
  | .tup _ => false
  | _ => true
def dSortSet (t : TEd) : TEd := fun env S Q E => t env S (fun d S1 => notTup d = true ∧ setK d S1 Q) E
theorem moSortSet {t : TEd} (ht : MoE t) : MoE (dSortSet t) := fun env S Q Q' E E' h he q => ht _ _ _ _ _ _ (fun d S1 q1 => ⟨q1.1, by
  have q1 := q1.2
  unfold setK at q1 ⊢
  split at q1
  · split at q1
    · exact ⟨q1.1, fun ms h1 h2 => h _ _ (q1.2 ms h1 h2)⟩
    · exact q1.elim
  · exact q1.elim⟩) he q
section
variable {P : Program} {w : World} {K : PySem.W.Frag} {mg : Str → Option Value} {base : Heap} {N : List Str} {sc : Scope} {vw : Vw} {k : Nat} {X : Cx} {W : WX}
end
/-- list + list, the first one grown or not -/
def fCatR : F2 := fun x y S Q => match x, y with
  | .lst a, .lst b => a.length + b.length ≤ sizeLine ∧ Q (.lst (a ++ b)) S
  | .ref r, .lst b => match S r with
    | some a => a.length + b.length ≤ sizeLine ∧ Q (.lst (a ++ b)) S
    | none => False
  | _, _ => False
theorem moCatR : MoF2 fCatR := fun x y S Q Q' h q => by
  unfold fCatR at q ⊢
  split at q
  · exact ⟨q.1, h _ _ q.2⟩
  · split at q
    · exact ⟨q.1, h _ _ q.2⟩
    · exact q.elim
  · exact q.elim
end Bl

namespace Bl
open PySem PySem.Spec PyProof.Rows L2
variable {X : Cx}
/-- != , the first one a grown list or not -/
def fNeR : F2 := fun x y S Q => match x with
  | .ref r => match S r with
    | some xs => fNe (.lst xs) y S Q
    | none => False
  | x => fNe x y S Q
theorem moNeR : MoF2 fNeR := fun x y S Q Q' h q => by
  unfold fNeR at q ⊢
  split at q
  · split at q
    · exact moNe _ _ _ _ _ h q
    · exact q.elim
  · rename_i hx
    exact moNe _ _ _ _ _ h q
theorem opD_neR {k : Nat} (hr : Room k X.A) : OpD X (compareOp .NotEq) fNeR := by
  refine ⟨moNeR, fun pins s σ H x y v u Q Z S dx dy I rx ry rs r1 r2 h => ?_⟩
  unfold fNeR at h
  split at h
  · split at h
    · rename_i r _ xs e
      cases r1
      obtain ⟨vs, hl, p1⟩ := rs.at_ r xs e
      have pp : plL xs = true := h.1.1
      exact op_neD hr.units pins s σ H _ _ v u Q I rx ry ⟨_, _, Dp.lst (SqL.of hl) (RpL.dp xs _ pp p1), Rp.dp _ _ h.2.1.1 r2, h.1.2, h.2.1.2, h.2.2 _ H (.refl rs) (.bl _)⟩
    · exact h.elim
  · exact (opD_ne hr).run pins s σ H x y v u Q Z S _ _ I rx ry rs r1 r2 h
end Bl

/-! xs[::-1] of a list -/
namespace Bl
open PySem PySem.Spec PyProof.Rows L2
theorem RpL.reverse {K : Kz} {S : Sto} {H : Hp} : ∀ {ds : List D} {vs : List V}, RpL K S H ds vs → RpL K S H ds.reverse vs.reverse
  | [], vs, r => by cases r; exact .nil
  | d :: ds, vs, r => by
    cases r with
    | cons r rs =>
      rw [List.reverse_cons, List.reverse_cons]
      exact (RpL.reverse rs).append (.cons r .nil)
section
variable {X : Cx} {W : WX} {e st : Expr} {te : TE} {ts : TO} {t : TEd} {tl : TOd} {pos p2 : Pos}
def rRevL (K : PySem.W.Frag) : V → Hp → VK → Prop := fun x H Q => ∃ a xs, x = .ref a ∧ SqL K H a xs ∧ ∀ p, H p = none → Q (.ref p) (upd H p (.lst xs.reverse))
theorem pe_slrev (he : PE X e te) (hs : PO X (some st) ts) : PE X (.Subscript e (.Slice none none (some st) p2) pos) (fun σ H Q => te σ H fun x H1 => ts σ H1 fun o H2 => o = some (-1) ∧ rRevL X.K x H2 Q) := by
  refine ⟨fun pins s σ H Q I h => ?_⟩
  refine Subscript_ (thn (he.run pins s σ H _ I h) fun v s1 ⟨x, H1, I1, r1, q1⟩ => ?_)
  refine wpAny_Slice ?_
  rw [evalPart_none]
  refine wpAny_pure ?_
  refine wpAny_pure ?_
  refine thn (hs.run pins s1 σ H1 _ I1 q1) fun vs s3 ⟨o, H3, I3, ps, q3⟩ => ?_
  obtain ⟨rfl, a, xs, rfl, hx, q⟩ := q3
  cases r1
  have I4 : Inv X pins σ H3 { s3 with heap := s3.heap.push { cls := .type "slice", data := .fields #[.none, .none, vs] } } := I3.kept (t' := s3.toks) fun b ob q => Heap.get?_push_of_some _ q
  obtain ⟨its, r, ht, hz⟩ := I4.list hx
  have hlen := r.length
  show wpAny (model X.prog X.w) X.A (subscriptTail e (.Slice none none (some st) p2) (.ref a) (.ref s3.heap.objs.size)) (EP X pins σ Q) X.xe { s3 with heap := s3.heap.push { cls := .type "slice", data := .fields #[.none, .none, vs] } }
  refine tail_any (ops := [.ref a, .ref s3.heap.objs.size]) ht.isList.typeIs slot_list_getitem.lookup ?_ (by with_unfolding_all rfl)
  refine wpAny_getItem_list_slice ht.isList (Heap.IsSliceOf.new ..) .none .none ps (by simp) ?_ (by rw [List.size_toArray]; omega)
  rw [PySem.W.krv_pick]
  refine ⟨.ref _, _, I4.laid (t' := s3.toks) (o := .lst xs.reverse) (fun b ob q => Heap.get?_push_of_some _ q) (Nat.le_refl _) ?_, rfl, q _ (I4.hok.fresh (Nat.le_refl _))⟩
  exact ⟨by rw [List.length_reverse]; omega, _, 0, r.reverse, Heap.get?_push_size _ rfl⟩
def fRv : D → Sto → DK → Prop := fun x S Q => match x with
  | .lst ds => Q (.lst ds.reverse) S
  | .ref a => match S a with
    | some ds => Q (.lst ds.reverse) S
    | none => False
  | _ => False
theorem moFRv {x : D} {S : Sto} {Q Q' : DK} (h : ∀ d S, Q d S → Q' d S) (q : fRv x S Q) : fRv x S Q' := by
  unfold fRv at q ⊢
  cases x <;> first
    | exact h _ _ q
    | (dsimp only at q ⊢; split at q <;> first | exact h _ _ q | exact q)
    | exact q
def dRvs (t : TEd) (tl : TOd) : TEd := fun env S Q E => t env S (fun x S1 => tl env S1 (fun o S2 => o = some (-1) ∧ fRv x S2 Q) E) E
theorem moRvs {t : TEd} {tl : TOd} (ht : MoE t) (hl : MoE tl) : MoE (dRvs t tl) := fun env S Q Q' E E' h he q =>
  ht _ _ _ _ _ _ (fun x S1 q1 => hl _ _ _ _ _ _ (fun o S2 q2 => ⟨q2.1, moFRv h q2.2⟩) he q1) he q
theorem je_rvs (ha : JE X W e t) (hl : JO X W (some st) tl) : JE X W (.Subscript e (.Slice none none (some st) p2) pos) (dRvs t tl) := by
  refine ⟨PE.imp (pe_slrev ha.pe hl.po) fun σ H Q h => ?_, moRvs ha.mo hl.mo⟩
  obtain ⟨Z, env, S, re, rs, q⟩ := h
  refine LE.of ha.mo re rs q (fun d S1 x H1 q1 a1 r1 => ?_) fun x S1 c dx H1 q1 a1 r1 => q1 c dx H1 a1 r1
  refine LO.of hl.mo (re.step a1.st rs) a1.rs q1 (fun o S2 H2 q2 a2 => ?_) fun x S2 c dx H2 q2 a2 r2 => q2 c dx H2 (a1.trans a2) r2
  have a12 := a1.trans a2
  obtain ⟨rfl, q2⟩ := q2
  refine ⟨rfl, ?_⟩
  have r := Rp.step a2.st a1.rs _ _ r1
  cases d <;> first | exact q2.elim | skip
  case lst ds =>
    obtain ⟨a, vs, rfl, h1, p1⟩ := lst_sq r
    exact ⟨_, _, rfl, h1, fun p hp => by
      obtain ⟨a3, r3⟩ := Rp.newL a2.rs hp p1.reverse
      exact q2 _ _ (a12.trans a3) r3⟩
  case ref a =>
    unfold fRv at q2; dsimp only at q2
    split at q2 <;> first | exact q2.elim | skip
    rename_i ds e0
    cases r
    obtain ⟨vs, hl, ha⟩ := a2.rs.at_ a ds e0
    exact ⟨_, _, rfl, SqL.of hl, fun p hp => by
      obtain ⟨a3, r3⟩ := Rp.newL a2.rs hp ha.reverse
      exact q2 _ _ (a12.trans a3) r3⟩
end
end Bl

/-! a list put behind a grown list; a thing put into one; a tuple once or not at all -/
namespace PySem.AutoSeq1
end PySem.AutoSeq1
namespace Bl
open PySem PySem.Spec PyProof.Rows L2
section
variable {X : Cx}
def gIns : GM := fun a ds S Q => match ds with
  | [.int i, d] => match S a with
    | some xs => xs.length < sizeLine ∧ 0 ≤ i ∧ i < 2 ^ 63 ∧ Q .non (sup S a (xs.take i.toNat ++ [d] ++ xs.drop i.toNat))
    | none => False
  | _ => False
theorem md_insert : MtD X "list.insert" gIns := by
  refine ⟨fun a ds S Q Q' h q => ?_, fun pins s σ H x xs v us Q I rx rv h => ?_⟩
  · unfold gIns at q ⊢
    split at q <;> first | exact q.elim | skip
    split at q <;> first | exact q.elim | exact ⟨q.1, q.2.1, q.2.2.1, h _ _ q.2.2.2⟩
  · obtain ⟨Z, S, a, ds, rfl, rs, rl, q⟩ := h
    unfold gIns at q
    split at q <;> first | exact q.elim | skip
    split at q <;> first | exact q.elim | skip
    rename_i i d _ ys e
    obtain ⟨y1, y2, rfl, r1, r2⟩ := rl.two
    cases r1
    obtain ⟨vs, hl, rv2⟩ := rs.at_ a ys e
    refine mt_insert pins s σ H _ _ v us Q I rx rv ⟨a, vs, i, y2, rfl, rfl, hl, by rw [← rv2.length]; exact q.1, q.2.1, q.2.2.1, ?_⟩
    exact q.2.2.2 _ _ (Rp.putR rs e (((rv2.take _).append (.cons r2 .nil)).append (rv2.drop _))) .non
variable {W : WX} {o e e2 : Expr} {es : List Expr} {to : TEd} {ta : TAd} {apos cpos : Pos}
theorem je_insert (ho : JE X W o to) (ha : JA X W [e, e2] ta) (hbase : attributeBase o "insert" X.env (eval o X.env) = eval o X.env := by rfl) (hline : (apos.endLine == cpos.line) = true := by rfl) (hs : starEach [e, e2] X.env = (false, eval e X.env) :: starEach [e2] X.env := by rfl)
    (hfew : ((backTo cpos (starEach [e, e2] X.env)).all (fun x => !x.1) && (backToKw cpos (keywordEach [] X.env)).all (fun x => x.1.isSome) && decide ([e, e2].length + ([] : List Keyword).length + (if ([] : List Keyword).isEmpty then 0 else 1) < 30)) = true := by rfl) (hpl : (backTo cpos (starEach [e2] X.env)).any (·.1) = false := by rfl) : JE X W (.Call (.Attribute o "insert" apos) [e, e2] [] cpos) (dLm gIns to ta) :=
  je_lm PySem.F.slot_list_insert PySem.F.type_list_insert md_insert ho ha hbase hfew hline hs hpl
end
end Bl
namespace Bl
open PySem PySem.Spec PyProof.Rows L2
def fRep01 : F2 := fun x y S Q => match x, y with
  | .tup (d :: ds), .int i => (i = 1 ∧ Q (.tup (d :: ds)) S) ∨ (i = 0 ∧ Q (.tup []) S)
  | _, _ => False
theorem moRep01 : MoF2 fRep01 := fun x y S Q Q' h q => by
  unfold fRep01 at q ⊢
  split at q <;> first | exact q.elim | skip
  exact q.imp (fun z => ⟨z.1, h _ _ z.2⟩) fun z => ⟨z.1, h _ _ z.2⟩
end Bl

/-! comprehensions over a list that is grown, and stands still meanwhile -/
namespace Bl
open PySem PySem.Spec PyProof.Rows L2
def lcGoG (a : Addr) (d0 : List D) (g : Tg) (tt : TTd) (te : TEd) (env : Ev) : List D → Sto → (List D → Sto → Prop) → Prop
  | [], S, Q => S a = some d0 ∧ Q [] S
  | d :: ds, S, Q => S a = some d0 ∧ match asgT S g d env with
    | some e1 => tt e1 S (fun b S1 => if b = true then te e1 S1 (fun y S2 => lcGoG a d0 g tt te env ds S2 fun ys S3 => Q (y :: ys) S3) EF else lcGoG a d0 g tt te env ds S1 Q) EF
    | none => False
def dLcG (t0 : TEd) (g : Tg) (tt : TTd) (te : TEd) (vs : List Nat) : TEd := fun env S Q E => t0 env S (fun d S1 => match d with
  | .ref a => match S1 a with
    | some ds => ds.length < sizeLine ∧ lcGoG a ds g tt te (wipeD env vs) ds S1 fun ys S2 => Q (.lst ys) S2
    | none => False
  | _ => False) E
theorem moLcGoG {a : Addr} {d0 : List D} {g : Tg} {tt : TTd} {te : TEd} (ht : MoE tt) (he : MoE te) (env : Ev) : ∀ (ds : List D) (S : Sto) (Q Q' : List D → Sto → Prop), (∀ ys S, Q ys S → Q' ys S) → lcGoG a d0 g tt te env ds S Q → lcGoG a d0 g tt te env ds S Q'
  | [], S, Q, Q', h, q => ⟨q.1, h _ _ q.2⟩
  | d :: ds, S, Q, Q', h, q => by
    unfold lcGoG at q ⊢
    obtain ⟨q0, q⟩ := q
    refine ⟨q0, ?_⟩
    split at q <;> first | exact q.elim | skip
    refine ht _ _ _ _ _ _ (fun b S1 q1 => ?_) (fun _ _ z => z) q
    cases b with
    | false => exact iteF (moLcGoG ht he env ds S1 Q Q' h q1)
    | true => exact iteT (he _ _ _ _ _ _ (fun y S2 q2 => moLcGoG ht he env ds S2 _ _ (fun ys S3 q3 => h _ _ q3) q2) (fun _ _ z => z) q1)
theorem moLcG {t0 : TEd} {g : Tg} {tt : TTd} {te : TEd} {vs : List Nat} (h0 : MoE t0) (ht : MoE tt) (he : MoE te) : MoE (dLcG t0 g tt te vs) := fun env S Q Q' E E' h hx q => h0 _ _ _ _ _ _ (fun d S1 q1 => by
  cases d <;> first | exact q1.elim | skip
  dsimp only at q1 ⊢
  split at q1 <;> first | exact q1.elim | skip
  exact ⟨q1.1, moLcGoG ht he _ _ _ _ _ (fun ys S2 q2 => h _ _ q2) q1.2⟩) hx q
theorem lcGoG_at {a : Addr} {d0 : List D} {g : Tg} {tt : TTd} {te : TEd} {env : Ev} : ∀ {ds : List D} {S : Sto} {Q : List D → Sto → Prop}, lcGoG a d0 g tt te env ds S Q → S a = some d0
  | [], _, _, h => h.1
  | _ :: _, _, _, h => by unfold lcGoG at h; exact h.1
theorem walk_any {K : PySem.W.Frag} {a : Addr} {n : Nat} : Walk (Itl K a) n (fun H => ∃ vs, SqL K H a vs ∧ vs.length = n) (fun i H x H' => H' = H ∧ ∀ vs, SqL K H a vs → vs[i]? = some x) :=
  ⟨fun i _ hi ⟨vs, q, e⟩ => ⟨vs, vs[i]'(by omega), q, by simp [e, hi]⟩, fun _ ⟨vs, q, e⟩ => ⟨vs, q, by omega⟩, fun _ _ _ _ _ _ y => y⟩
theorem lc_runG {K : Kz} {S : Sto} {H : Hp} {g : Tg} {tt : TTd} {te : TEd} {vs : List Nat} {env : Ev} {σ : L2.St} {ds : List D} {a p : Addr} {Qd : Hp → Prop} {QQ : List D → Sto → Prop} (ht : MoE tt) (he : MoE te) (hgv : ∀ i ∈ tgS g, i ∈ vs) (re : RE K S H env σ) (rs : RS K S H) (hp : H p = none)
    (hl : ds.length < sizeLine) (h : lcGoG a ds g tt te (wipeD env vs) ds S QQ)
    (hd : ∀ S' H' acc accD, QQ accD S' → Step S H S' H' → RS (K.more p) S' H' → H' p = some (.lst acc) → RpL (K.more p) S' H' accD acc → Qd H') :
    ∃ Wi : Nat → Nat → Hp → Prop, (∃ m, Wi 0 m (upd H p (.lst []))) ∧ ∀ i m H, Wi i m H →
      ((Itl K.K a).stop i H ∧ Qd H) ∨ ((Itl K.K a).go i H ∧ ∃ Nx : Hp → Prop, (∀ H', Nx H' → ∃ m', m' < m ∧ Wi (i + 1) m' H') ∧ ∀ x H', (Itl K.K a).yld i H x H' → LG K.K g x (wipe σ vs) H' fun σ2 H2 => wipe σ2 vs = wipe σ vs ∧ LT K.K W0 tt σ2 H2 fun b H3 =>
        if b = true then LE K.K W0 te σ2 H3 fun y H4 => ∃ acc, H4 p = some (.lst acc) ∧ acc.length < sizeLine ∧ Nx (upd H4 p (.lst (acc ++ [y]))) else Nx H3) := by
  refine lc_it (walk_any (K := K.K) (a := a) (n := ds.length)) (fun i H' => ∃ S' acc accD, H' p = some (.lst acc) ∧ RpL (K.more p) S' H' accD acc ∧ accD.length ≤ i ∧ Step S H S' H' ∧ RS (K.more p) S' H' ∧ (∀ d v, Rp K S H d v → Rp (K.more p) S' H' d v) ∧ lcGoG a ds g tt te (wipeD env vs) (ds.drop i) S' fun ys S2 => QQ (accD ++ ys) S2)
    ⟨S, [], [], upd_same, .nil, Nat.le_refl _, fun b o e n => ⟨n, by rw [upd_ne (ne_of_none e hp)]; exact e⟩, rs.hide hp, fun d v r => Rp.hide hp d v r, h⟩ (fun i H' _ ⟨S', _, _, _, _, _, st, rs', _, q⟩ => ?_) (fun i x H' H'' hi hPv y => ?_) fun H' hPv => ?_
  · obtain ⟨ws, e1, r1⟩ := rs'.at_ a ds (lcGoG_at q)
    exact ⟨ws, SqL.of e1, r1.length.symm⟩
  · obtain ⟨S', acc, accD, e1, rl, la, st, rs', tr, q⟩ := hPv
    obtain ⟨rfl, hy⟩ := y
    obtain ⟨ws, ea, ra⟩ := rs'.at_ a ds (lcGoG_at q)
    obtain ⟨d, ed, rd⟩ := ra.get' (hy ws (SqL.of ea))
    have a2 : Aft (K.more p) S' H'' S' H'' := .refl rs'
    have e0 : ds.drop i = d :: ds.drop (i + 1) := by
      rw [List.drop_eq_getElem_cons hi]
      congr 1
      rw [List.getElem?_eq_getElem hi] at ed
      exact Option.some.inj ed
    rw [e0] at q
    unfold lcGoG at q
    obtain ⟨_, q⟩ := q
    split at q <;> first | exact q.elim | skip
    rename_i env1 ee
    have re' : RE (K.more p) S' H'' env σ := ⟨re.len, fun j d e => by
      obtain ⟨v, e2, r⟩ := re.at_ j d e
      exact ⟨v, e2, tr d v r⟩⟩
    have np : S' p = none := (rs'.hid p (.inr rfl)).1
    refine ⟨fun b => K.Z b ∨ b = p, wipeD env vs, S', d, env1, (re'.wipe vs).step a2.st rs', a2.rs, rd, ee, fun σ2 r2 w2 => ⟨?_, ?_⟩⟩
    · rw [w2 vs hgv]
      have z : ∀ (σ : L2.St) (vs : List Nat), wipe (wipe σ vs) vs = wipe σ vs := by
        intro σ vs
        have z2 : ∀ us : List Nat, (∀ u ∈ us, u ∈ vs) → wipe (wipe σ us) vs = wipe σ vs := by
          intro us
          induction us with
          | nil => intro _; rfl
          | cons u us ih =>
            intro hu
            show wipe ((wipe σ us).set u none) vs = _
            rw [wipe_in (hu u (by simp)), ih fun v hv => hu v (by simp [hv])]
        exact z2 vs fun _ h => h
      exact z σ vs
    refine LT.of (K := K.more p) ht r2 a2.rs q (fun b S3 H3 q3 a3 => ?_) fun x S3 c dx H3 q3 _ _ => q3
    have a23 := a2.trans a3
    have e3 : H3 p = some (.lst acc) := (a23.st p _ e1 np).2
    have st3 : Step S H S3 H3 := st.trans a23.st
    cases b with
    | false =>
      refine iteF ⟨S3, acc, accD, e3, RpL.step a23.st rs' _ _ rl, Nat.le_succ_of_le la, st3, a3.rs, fun d v r => Rp.step a23.st rs' _ _ (tr d v r), q3⟩
    | true =>
      refine iteT (LE.of (K := K.more p) he (r2.step a3.st a2.rs) a3.rs q3 (fun yD S4 yv H4 q4 a4 r4 => ?_) fun x S4 c dx H4 q4 _ _ => q4)
      have a24 := a23.trans a4
      have e4 : H4 p = some (.lst acc) := (a24.st p _ e1 np).2
      have lacc : acc.length ≤ i := by rw [← rl.length]; exact la
      refine ⟨acc, e4, by omega, S4, acc ++ [yv], accD ++ [yD], upd_same, ?_, ?_, ?_, a4.rs.grow e4, fun d v r => Rp.grow e4 _ _ (Rp.step a24.st rs' _ _ (tr d v r)), ?_⟩
      · exact RpL.grow e4 _ _ ((RpL.step a24.st rs' _ _ rl).append (.cons r4 .nil))
      · rw [List.length_append, List.length_singleton]; omega
      · intro b o e n
        obtain ⟨n1, h1⟩ := (st.trans a24.st) b o e n
        exact ⟨n1, by rw [upd_ne (ne_of_none e hp)]; exact h1⟩
      · simpa only [List.append_assoc, List.singleton_append] using q4
  · obtain ⟨S', acc, accD, e1, rl, la, st, rs', tr, q⟩ := hPv
    rw [List.drop_length] at q
    unfold lcGoG at q
    obtain ⟨_, q⟩ := q
    rw [List.append_nil] at q
    exact hd S' H' acc accD q st rs' e1 rl
def LIG (K : PySem.W.Frag) (W : WX) (t : TEd) : TI := fun σ H R => ∃ Z env S, RE ⟨K, Z⟩ S H env σ ∧ RS ⟨K, Z⟩ S H ∧ t env S (fun d S' => ∃ a ds, d = .ref a ∧ S' a = some ds ∧ ∀ H', Aft ⟨K, Z⟩ S H S' H' → R (Itl K a) H') (PX ⟨K, Z⟩ S H σ W)
theorem pi_ref {X : Cx} {W : WX} {tg e : Expr} {te : TEd} (he : JE X W e te) : PI X tg e (LIG X.K W te) := by
  refine ⟨fun pins s σ H R I h => ?_⟩
  obtain ⟨Z, env, S, re, rs, q⟩ := h
  refine thn (he.pe.run pins s σ H _ I (LE.of he.mo re rs q (R := fun v H1 => ∃ d S1, Aft ⟨X.K, Z⟩ S H S1 H1 ∧ Rp ⟨X.K, Z⟩ S1 H1 d v ∧ ∃ a ds, d = .ref a ∧ S1 a = some ds ∧ ∀ H', Aft ⟨X.K, Z⟩ S H S1 H' → R (Itl X.K a) H') (fun d S1 v H1 q1 a1 r1 => ⟨d, S1, a1, r1, q1⟩) fun x S1 c dx H1 q1 a1 r1 => q1 c dx H1 a1 r1)) fun u s1 ⟨v, H1, I1, ru, d, S1, a1, r1, a, ds, e1, e2, q1⟩ => ?_
  subst e1
  cases r1
  cases ru
  obtain ⟨vs, hl, _⟩ := a1.rs.at_ a ds e2
  exact it_list I1 (SqL.of hl) (q1 H1 a1)
section
variable {P : Program} {w : World} {K : PySem.W.Frag} {mg : Str → Option Value} {base : Heap} {N : List Str} {sc : Scope} {vw : Vw} {k : Nat} {X : Cx} {W : WX}
variable {elt tg iter : Expr} {ifs : List Expr} {scope : Scope} {pos : Pos} {t0 : TEd} {g : Tg} {tt : TTd} {te : TEd} {own : List (Str × Nat)} {vw2 : Vw}
theorem lcOfG (hi : JE X W iter t0) (ht : MoE tt) (he : MoE te) (hgv : ∀ i ∈ tgS g, i ∈ own.map (·.2)) {σ : L2.St} {H : Hp} {Q : VK} (h : LE X.K W (dLcG t0 g tt te (own.map (·.2))) σ H Q) : tLc (LIG X.K W t0) (LG X.K g) (LT X.K W0 tt) (LE X.K W0 te) (own.map (·.2)) σ H Q := by
  obtain ⟨Z, env, S, re, rs, q⟩ := h
  refine ⟨Z, env, S, re, rs, hi.mo _ _ _ _ _ _ (fun d S1 q1 => ?_) (fun x S1 q1 => q1) q⟩
  cases d <;> first | exact q1.elim | skip
  rename_i a
  dsimp only at q1
  split at q1 <;> first | exact q1.elim | skip
  rename_i ds e1
  refine ⟨a, ds, rfl, e1, fun H1 a1 p hp => ?_⟩
  refine lc_runG (K := ⟨X.K, Z⟩) ht he hgv (re.step a1.st rs) a1.rs hp q1.1 q1.2 fun S' H' acc accD qq st rs' e rl => ?_
  exact qq _ H' (a1.trans ⟨st, rs'.show_⟩) (Rp.made rs' e (a1.rs.nz hp) rl)
theorem je_lcG (c : JC P w K mg base N sc vw k X W) (ok : blkC N sc scope own = true) (s2 : Sc N (relS scope sc) vw2) (hgv : ∀ i ∈ tgS g, i ∈ own.map (·.2)) (hi : JE X W iter t0)
    (hg : ∀ X2, JC P w K mg base N (relS scope sc) vw2 k X2 W0 → JG X2 tg g) (ht : ∀ X2, JC P w K mg base N (relS scope sc) vw2 k X2 W0 → JTs X2 W0 ifs tt) (he : ∀ X2, JC P w K mg base N (relS scope sc) vw2 k X2 W0 → JE X2 W0 elt te) (mt : MoE tt) (me : MoE te)
    (hs : ∀ x, foldedSetIterable iter X.env x = pure x := by intro _; rfl) : JE X W (.ListComp elt [⟨tg, iter, ifs, 0⟩] scope pos) (dLcG t0 g tt te (own.map (·.2))) := by
  have bo : BlkOk X.N X.env.scope scope own := by rw [c.nn, c.ss]; exact blkOk_by ok
  have jc := fun s H C cl fp => c.blk s2 bo.kind s H C cl fp
  refine ⟨PE.imp (pe_lc (own := own) c.calm (by rw [c.nn]; exact c.nd) (pi_ref hi) bo (fun s H C cl fp => (hg _ (jc s H C cl fp)).pg) (fun s H C cl fp => (ht _ (jc s H C cl fp)).pt) (fun s H C cl fp => (he _ (jc s H C cl fp)).pe) hs) fun σ H Q h => lcOfG hi mt me hgv h, moLcG hi.mo mt me⟩
end
end Bl

/-! zip with strict=True, zip of what is reversed: at the library's level. -/
namespace ZG
open PySem PySem.Spec PyProof.Rows RT
section
variable {prog : Program} {w : World} {A : Around} {E : Value → Shared → Prop} {s : Shared}
theorem nextOf_rev_item {it l : Addr} {i : Nat} {items : Array Value} {x : Value} {Q : Value → Shared → Prop} (hit : s.heap.IsRevIter it l (i : Int)) (hl : s.heap.IsList l items) (hx : items[i]? = some x)
    (hQ : ∀ h', h'.IsRevIter it l ((i : Int) - 1) → Heap.SameBut it s.heap h' → Q x { s with heap := h' }) : wpAny (model prog w) A (Builtin.SmallTypes.nextOf (.ref it)) Q E s := by
  obtain ⟨o, ho, hc, hd⟩ := id hit
  obtain ⟨ol, hol, _, nl, hdl⟩ := hl
  unfold Builtin.SmallTypes.nextOf
  refine wpAny_bind (wpAny_callSpecial?_slot (name := Str.ofString "__next__") hit.typeIs F.slot_lri_next
    (wpAny_call_entry F.slot_lri_next hit.typeIs F.entry_lri_next ?_ (F.args_lri_next_1 _)))
  unfold Builtin.«list_reverseiterator.__next__»
  refine wpAny_bind (wpAny_of_eq (a := (Value.ref it, [])) rfl ?_)
  try dsimp only
  refine wpAny_bind (wpAny_field ho hd (x := rawInt (i : Int)) rfl ?_)
  show wpAny _ _ (if (i : Int) < 0 then _ else _) _ _ s
  rw [if_neg (by omega)]
  show wpAny _ _ (field (.ref it) 0 >>= _) _ _ s
  refine wpAny_bind (wpAny_field ho hd (x := .ref l) rfl ?_)
  show wpAny _ _ (seqItems? (.ref l) >>= _) _ _ s
  refine wpAny_bind (wpAny_seqItems hol hdl ?_)
  simp only [Int.toNat_natCast, hx]
  refine wpAny_bind (wpAny_setField ho hd (by simp) ?_)
  first
  | refine wpAny_pure ⟨x, rfl, wpAny_pure (hQ _ ?_ (Heap.SameBut.update ..))⟩
  | refine wpAny_bind (wpAny_pure (wpAny_pure ⟨x, rfl, wpAny_pure (hQ _ ?_ (Heap.SameBut.update ..))⟩))
  exact ⟨_, Heap.get?_update_self _ ho (Obj.isFreed_of_fields (Obj.data_mapFields hd _)), (Obj.cls_mapFields ..).trans hc, by
    rw [Obj.data_mapFields hd]; simp⟩
theorem nextOf_rev_end {it l : Addr} {Q : Value → Shared → Prop} (hh : A.handled = none) (hit : s.heap.IsRevIter it l (-1))
    (hE : ∀ h' e, Heap.ExtBut it s.heap h' → (∃ o, h'.get? e = some o ∧ o.cls = .type "StopIteration") → E (.ref e) { s with heap := h' }) : wpAny (model prog w) A (Builtin.SmallTypes.nextOf (.ref it)) Q E s := by
  obtain ⟨o, ho, hc, hd⟩ := id hit
  unfold Builtin.SmallTypes.nextOf
  refine wpAny_bind (wpAny_callSpecial?_slot (name := Str.ofString "__next__") hit.typeIs F.slot_lri_next
    (wpAny_call_entry F.slot_lri_next hit.typeIs F.entry_lri_next ?_ (F.args_lri_next_1 _)))
  unfold Builtin.«list_reverseiterator.__next__»
  refine wpAny_bind (wpAny_of_eq (a := (Value.ref it, [])) rfl ?_)
  try dsimp only
  refine wpAny_bind (wpAny_field ho hd (x := rawInt (-1)) rfl ?_)
  show wpAny _ _ (if (-1 : Int) < 0 then _ else _) _ _ s
  rw [if_pos (by decide)]
  refine wpAny_bind (wpAny_rule ?_)
  first
  | show wpAny _ _ (newExc (.type "StopIteration") [] >>= _) _ _ _
  | (refine wpAny_bind ?_; show wpAny _ _ (newExc (.type "StopIteration") [] >>= _) _ _ _)
  refine wpAny_bind ?_
  simp only [newExc, newTuple]
  refine wpAny_bind (wpAny_newObj_type ?_ (by size_fits))
  refine wpAny_bind (m := firstArgMember _ _) (wpAny_of_eq (a := Value.none) (by first | rfl | (simp only [firstArgMember]; rfl)) ?_)
  refine wpAny_newObj_type ?_ (by size_fits)
  simp only [raiseNew]
  refine wpAny_bind (wpAny_handled ?_)
  first | rw [show A.in1.handled = none from hh] | rw [hh]
  refine wpAny_bind (wpAny_pure (wpAny_throw ?_))
  exact hE _ _ (((Heap.ExtBut.refl _ _).push _).push _) ⟨_, Heap.get?_push_size _ rfl, rfl⟩
theorem nextOf_rt_item {it t : Addr} {i : Nat} {items : Array Value} {x : Value} {Q : Value → Shared → Prop} (hit : IsRt s.heap it t (i : Int)) (ht : IsTup s.heap t items) (hx : items[i]? = some x) (hsz : items.size ≤ sizeLine)
    (hQ : ∀ h', IsRt h' it t ((i : Int) - 1) → Heap.SameBut it s.heap h' → Q x { s with heap := h', toks := s.toks + 1 }) : wpAny (model prog w) A (Builtin.SmallTypes.nextOf (.ref it)) Q E s := by
  obtain ⟨o, ho, hc, hd⟩ := id hit
  have hi : i < items.size := (Array.getElem?_eq_some_iff.mp hx).1
  have hT : s.TypeIs (.ref t) "tuple" := IsTup.typeOf' ht
  rw [sizeLine_eq] at hsz
  unfold Builtin.SmallTypes.nextOf
  refine wpAny_bind (wpAny_callSpecial?_slot (name := Str.ofString "__next__") hit.typeIs slot_rt_next
    (wpAny_call_entry slot_rt_next hit.typeIs entry_rt_next ?_ (args_rt_next _)))
  unfold Builtin.«reversed.__next__»
  refine wpAny_bind (wpAny_of_eq (a := (Value.ref it, [])) rfl ?_)
  try dsimp only
  refine wpAny_bind (wpAny_field ho hd (x := .ref t) rfl ?_)
  try dsimp only
  refine wpAny_bind (wpAny_field ho hd (x := rawInt (i : Int)) rfl ?_)
  show wpAny _ _ (if (i : Int) < 0 then _ else _) _ _ s
  rw [if_neg (by omega)]
  try dsimp only
  refine wpAny_bind (wpAny_specialOf hT get_tuple ?_)
  try dsimp only
  try rw [if_neg (by decide)]
  try dsimp only
  refine wpAny_bind (wpAny_mkInt ?_)
  refine wpAny_bind (wpAny_attempt ?_)
  have fin : seqIndex? (i : Int) items.size = some i := seqIndex_of (by omega) (by omega)
  refine PyProof.Rows.getItem_tuple (s := { s with toks := s.toks + 1 }) ht (by omega) (by omega) fin hx ?_
  try dsimp only
  refine wpAny_bind (wpAny_field (s := { s with toks := s.toks + 1 }) ho hd (x := rawInt (i : Int)) rfl ?_)
  try dsimp only
  refine wpAny_bind (wpAny_setField (s := { s with toks := s.toks + 1 }) ho hd (by simp) ?_)
  first
  | refine wpAny_pure ⟨x, rfl, wpAny_pure (hQ _ ?_ (Heap.SameBut.update ..))⟩
  | refine wpAny_bind (wpAny_pure (wpAny_pure ⟨x, rfl, wpAny_pure (hQ _ ?_ (Heap.SameBut.update ..))⟩))
  exact ⟨_, Heap.get?_update_self _ ho (Obj.isFreed_of_fields (Obj.data_mapFields hd _)), (Obj.cls_mapFields ..).trans hc, by
    rw [Obj.data_mapFields hd]; simp⟩
theorem nextOf_rt_end {it t : Addr} {Q : Value → Shared → Prop} (hh : A.handled = none) (hit : IsRt s.heap it t (-1))
    (hE : ∀ h' e, Heap.ExtBut it s.heap h' → (∃ o, h'.get? e = some o ∧ o.cls = .type "StopIteration") → E (.ref e) { s with heap := h' }) : wpAny (model prog w) A (Builtin.SmallTypes.nextOf (.ref it)) Q E s := by
  obtain ⟨o, ho, hc, hd⟩ := id hit
  unfold Builtin.SmallTypes.nextOf
  refine wpAny_bind (wpAny_callSpecial?_slot (name := Str.ofString "__next__") hit.typeIs slot_rt_next
    (wpAny_call_entry slot_rt_next hit.typeIs entry_rt_next ?_ (args_rt_next _)))
  unfold Builtin.«reversed.__next__»
  refine wpAny_bind (wpAny_of_eq (a := (Value.ref it, [])) rfl ?_)
  try dsimp only
  refine wpAny_bind (wpAny_field ho hd (x := .ref t) rfl ?_)
  try dsimp only
  refine wpAny_bind (wpAny_field ho hd (x := rawInt (-1)) rfl ?_)
  show wpAny _ _ (if (-1 : Int) < 0 then _ else _) _ _ s
  rw [if_pos (by decide)]
  try dsimp only
  refine wpAny_bind (wpAny_rule ?_)
  refine wpAny_bind ?_
  wp_delta
  refine wpAny_bind (wpAny_setField ho hd (by simp) ?_)
  have ho2 := Heap.get?_update_self (Obj.mapFields (·.setIfInBounds 1 (rawInt (-1)))) ho (Obj.isFreed_of_fields (Obj.data_mapFields hd _))
  refine wpAny_setField (s := { s with heap := s.heap.update it (Obj.mapFields (·.setIfInBounds 1 (rawInt (-1)))) }) ho2 (Obj.data_mapFields hd _) (by simp) ?_
  try dsimp only
  first
  | show wpAny _ _ (newExc (.type "StopIteration") [] >>= _) _ _ _
  | (refine wpAny_bind ?_; show wpAny _ _ (newExc (.type "StopIteration") [] >>= _) _ _ _)
  | (refine wpAny_bind ?_; wp_delta; show wpAny _ _ (newExc (.type "StopIteration") [] >>= _) _ _ _)
  refine wpAny_bind ?_
  simp only [newExc, newTuple]
  refine wpAny_bind (wpAny_newObj_type ?_ (by size_fits))
  refine wpAny_bind (m := firstArgMember _ _) (wpAny_of_eq (a := Value.none) (by first | rfl | (simp only [firstArgMember]; rfl)) ?_)
  refine wpAny_newObj_type ?_ (by size_fits)
  simp only [raiseNew]
  refine wpAny_bind (wpAny_handled ?_)
  first | rw [show A.in1.handled = none from hh] | rw [hh]
  refine wpAny_bind (wpAny_pure (wpAny_throw ?_))
  refine hE _ _ ?_ ⟨_, Heap.get?_push_size _ rfl, rfl⟩
  refine ((?_ : Heap.ExtBut it s.heap _).push _).push _
  exact fun b ob hb e => (Heap.get?_update_other _ _ (Ne.symm hb)).trans ((Heap.get?_update_other _ _ (Ne.symm hb)).trans e)
end
theorem draws_rev {prog : Program} {w : World} {A : Around} (hh : A.handled = none) (it l : Addr) (hne : l ≠ it) (items : Array Value) :
    Draws prog w A it [it, l] items.size (fun i v => items[items.size - 1 - i]? = some v) (fun i h => (i ≤ items.size ∧ h.IsRevIter it l ((items.size : Int) - 1 - (i : Int))) ∧ h.IsList l items) where
  live := fun _ _ st => let ⟨o, ho, _⟩ := st.1.2; ⟨o, ho⟩
  frame := fun _ _ _ st hk => ⟨⟨st.1.1, st.1.2.at fun o e => hk it (by simp) o e⟩, st.2.at fun o e => hk l (by simp) o e⟩
  item := fun i s Q E hi st hQ => by
    have e : (items.size : Int) - 1 - (i : Int) = ((items.size - 1 - i : Nat) : Int) := by omega
    have hit := st.1.2
    rw [e] at hit
    have hx : items[items.size - 1 - i]? = some (items[items.size - 1 - i]'(by omega)) := Array.getElem?_eq_getElem (by omega)
    refine nextOf_rev_item hit st.2 hx fun h' hit' hs' => ?_
    have e2 : ((items.size - 1 - i : Nat) : Int) - 1 = (items.size : Int) - 1 - ((i + 1 : Nat) : Int) := by omega
    rw [e2] at hit'
    exact hQ _ h' s.toks hx ⟨⟨hi, hit'⟩, st.2.extBut hs'.extBut hne⟩ hs'
  done := fun s Q E st hE => by
    have e : (items.size : Int) - 1 - (items.size : Int) = -1 := by omega
    have hit := st.1.2
    rw [e] at hit
    exact nextOf_rev_end hh hit hE
theorem draws_rt {prog : Program} {w : World} {A : Around} (hh : A.handled = none) (it t : Addr) (hne : t ≠ it) (items : Array Value) (hsz : items.size ≤ sizeLine) :
    Draws prog w A it [it, t] items.size (fun i v => items[items.size - 1 - i]? = some v) (fun i h => (i ≤ items.size ∧ IsRt h it t ((items.size : Int) - 1 - (i : Int))) ∧ IsTup h t items) where
  live := fun _ _ st => let ⟨o, ho, _⟩ := st.1.2; ⟨o, ho⟩
  frame := fun _ _ _ st hk => ⟨⟨st.1.1, st.1.2.at fun o e => hk it (by simp) o e⟩, let ⟨o, ho, r⟩ := st.2; ⟨o, hk t (by simp) o ho, r⟩⟩
  item := fun i s Q E hi st hQ => by
    have e : (items.size : Int) - 1 - (i : Int) = ((items.size - 1 - i : Nat) : Int) := by omega
    have hit := st.1.2
    rw [e] at hit
    have hx : items[items.size - 1 - i]? = some (items[items.size - 1 - i]'(by omega)) := Array.getElem?_eq_getElem (by omega)
    refine nextOf_rt_item hit st.2 hx hsz fun h' hit' hs' => ?_
    have e2 : ((items.size - 1 - i : Nat) : Int) - 1 = (items.size : Int) - 1 - ((i + 1 : Nat) : Int) := by omega
    rw [e2] at hit'
    exact hQ _ h' (s.toks + 1) hx ⟨⟨hi, hit'⟩, let ⟨o, ho, r⟩ := st.2; ⟨o, hs'.extBut _ _ hne ho, r⟩⟩ hs'
  done := fun s Q E st hE => by
    have e : (items.size : Int) - 1 - (items.size : Int) = -1 := by omega
    have hit := st.1.2
    rw [e] at hit
    exact nextOf_rt_end hh hit hE

/-! ### strict -/
section
variable {prog : Program} {w : World} {A : Around} {E : Value → Shared → Prop} {s : Shared} {z TI TO i1 i2 : Addr} {fp1 fp2 : List Addr} {n1 n2 i : Nat} {P1 P2 : Nat → Value → Prop} {St1 St2 : Nat → Heap → Prop} {a1 a2 : Value}
end
/-! ### zip(a, b, strict=True), a and b lists or tuples -/
/-- an iterator begins over v: the object that is laid -/
structure Beg (v : Value) (o : Obj) (Hs : Heap → Prop) : Prop where
  iter : ∀ (prog : Program) (w : World) (A : Around) (E : Value → Shared → Prop) (s : Shared) (Q : Value → Shared → Prop), Hs s.heap → Q (.ref s.heap.objs.size) { s with heap := s.heap.push o } → wpAny (model prog w) A (pyIter v) Q E s
  up : ∀ (h : Heap) (o' : Obj), Hs h → Hs (h.push o')
  free : o.isFreed = false
end ZG

namespace ZG
open PySem PySem.Spec PyProof.Rows RT
section
variable {prog : Program} {w : World} {A : Around} {E : Value → Shared → Prop} {s : Shared}
end
/-! ### zip(reversed(a), reversed(b)) -/
/-- an iterator that is its own -/
structure Own (i : Addr) (Hs : Heap → Prop) : Prop where
  iter : ∀ (prog : Program) (w : World) (A : Around) (E : Value → Shared → Prop) (s : Shared) (Q : Value → Shared → Prop), Hs s.heap → Q (.ref i) s → wpAny (model prog w) A (pyIter (.ref i)) Q E s
section
variable {prog : Program} {w : World} {A : Around} {E : Value → Shared → Prop} {s : Shared}
end
end ZG

/-! zip of lists and tuples, read from either end, strict or not, as a walk. -/
namespace ZG
open PySem PySem.Spec PyProof.Rows L2 RT
inductive SK where
  | l | t | rl | rt
def SK.sq (K : PySem.W.Frag) : SK → Hp → Addr → List V → Prop
  | .l => SqL K | .rl => SqL K | .t => SqT K | .rt => SqT K
def SK.ix : SK → Nat → Nat → Nat
  | .l, _, i => i | .t, _, i => i | .rl, n, i => n - 1 - i | .rt, n, i => n - 1 - i
def SK.it : SK → Heap → Addr → Addr → Nat → Nat → Prop
  | .l, h, it, a, _, i => h.IsListIter it a i
  | .t, h, it, a, _, i => h.IsTupleIter it a i
  | .rl, h, it, a, n, i => i ≤ n ∧ h.IsRevIter it a ((n : Int) - 1 - (i : Int))
  | .rt, h, it, a, n, i => i ≤ n ∧ IsRt h it a ((n : Int) - 1 - (i : Int))
/-- an iterator over a list or a tuple draws its items -/
theorem SK.draws {X : Cx} {pins : List (Addr × Obj)} {σ : L2.St} {H : Hp} {s : Shared} (k : SK) (I : Inv X pins σ H s) (hh : X.A.in1.handled = none) {a it : Addr} {xs : List V} (hq : k.sq X.K H a xs) (hne : a ≠ it) :
    ∃ (its : List Value) (St : Nat → Heap → Prop), Vals xs its ∧ Draws X.prog X.w X.A.in1 it [it, a] xs.length (fun i v => its[k.ix xs.length i]? = some v) St ∧ (∀ i, k.it s.heap it a xs.length i → St i s.heap) ∧ ∀ i h, St i h → k.it h it a xs.length i := by
  cases k with
  | l =>
    obtain ⟨its, rv, p, _⟩ := I.list hq
    have D := Draws.list (prog := X.prog) (w := X.w) hh it a hne its.toArray
    simp only [List.size_toArray, ← rv.length, List.getElem?_toArray] at D
    exact ⟨its, _, rv, D, fun i st => ⟨st, p.isList⟩, fun i h st => st.1⟩
  | t =>
    obtain ⟨its, rv, p, _⟩ := I.tuple hq
    have D := Draws.tuple (prog := X.prog) (w := X.w) hh it a hne its.toArray
    simp only [List.size_toArray, ← rv.length, List.getElem?_toArray] at D
    exact ⟨its, _, rv, D, fun i st => ⟨st, show s.heap.IsTuple a its.toArray from p⟩, fun i h st => st.1⟩
  | rl =>
    obtain ⟨its, rv, p, _⟩ := I.list hq
    have D := draws_rev (prog := X.prog) (w := X.w) hh it a hne its.toArray
    simp only [List.size_toArray, ← rv.length, List.getElem?_toArray] at D
    exact ⟨its, _, rv, D, fun i st => ⟨st, p.isList⟩, fun i h st => st.1⟩
  | rt =>
    obtain ⟨its, rv, p, hz⟩ := I.tuple hq
    have D := draws_rt (prog := X.prog) (w := X.w) hh it a hne its.toArray (by rw [List.size_toArray, ← rv.length]; exact hz)
    simp only [List.size_toArray, ← rv.length, List.getElem?_toArray] at D
    exact ⟨its, _, rv, D, fun i st => ⟨st, p⟩, fun i h st => st.1⟩
theorem SK.inj {X : Cx} {pins : List (Addr × Obj)} {σ : L2.St} {H : Hp} {s : Shared} {k : SK} (I : Inv X pins σ H s) {a : Addr} {xs ys : List V} (h1 : k.sq X.K H a xs) (h2 : k.sq X.K H a ys) : xs = ys := by
  cases k with
  | l => exact I.list_inj h1 h2
  | t => exact I.tuple_inj h1 h2
  | rl => exact I.list_inj h1 h2
  | rt => exact I.tuple_inj h1 h2
end ZG

namespace ZG
open PySem PySem.Spec PyProof.Rows L2 RT
theorem SK.lt {X : Cx} {pins : List (Addr × Obj)} {σ : L2.St} {H : Hp} {s : Shared} (k : SK) (I : Inv X pins σ H s) {a : Addr} {xs : List V} (hq : k.sq X.K H a xs) : ∃ o, s.heap.get? a = some o ∧ (o.cls = .type "list" ∨ o.cls = .type "tuple") := by
  cases k with
  | l => obtain ⟨its, rv, p, _⟩ := I.list hq; obtain ⟨o, ho, hc, _⟩ := p.isList; exact ⟨o, ho, .inl hc⟩
  | t => obtain ⟨its, rv, p, _⟩ := I.tuple hq; obtain ⟨o, ho, hc, _⟩ := id p; exact ⟨o, ho, .inr hc⟩
  | rl => obtain ⟨its, rv, p, _⟩ := I.list hq; obtain ⟨o, ho, hc, _⟩ := p.isList; exact ⟨o, ho, .inl hc⟩
  | rt => obtain ⟨its, rv, p, _⟩ := I.tuple hq; obtain ⟨o, ho, hc, _⟩ := id p; exact ⟨o, ho, .inr hc⟩
theorem SK.own {k : SK} (hk : k = .rl ∨ k = .rt) {i a : Addr} {n : Nat} : Own i (fun h => k.it h i a n 0) := by
  rcases hk with rfl | rfl
  · exact ⟨fun _ _ _ _ _ _ h q => wpAny_pyIter_revIter h.2 q⟩
  · exact ⟨fun _ _ _ _ _ _ h q => iter_rt h.2 q⟩
end ZG

namespace Bl
open PySem PySem.Spec PyProof.Rows L2 ZG
/-! ### zip(x, y, strict=True), zip(reversed(x), reversed(y)) over data -/
def zipSK (x y : D) (S : Sto) (Q : List D → Sto → Prop) : Prop := match seqD x with
  | some xs => (match seqD y with | some ys => xs.length = ys.length ∧ Q (zipD xs ys) S | none => False)
  | none => False
def seqK (x : D) (k : List D → Prop) : Prop := match seqD x with
  | some xs => k xs
  | none => False
theorem seqK.imp {x : D} {k k' : List D → Prop} (h : seqK x k) (i : ∀ xs, k xs → k' xs) : seqK x k' := by
  unfold seqK at *
  split at h
  · exact i _ h
  · exact h.elim
theorem seqK.ex {x : D} {k : List D → Prop} (h : seqK x k) : ∃ xs, seqD x = some xs ∧ k xs := by
  unfold seqK at h
  split at h
  · exact ⟨_, by assumption, h⟩
  · exact h.elim
def iZipSD (t u : TEd) : TAd := fun env S Q E => t env S (fun x S1 => u env S1 (fun y S2 => zipSK x y S2 Q) E) E
def iZipRD (t u : TEd) : TAd := fun env S Q E => t env S (fun x S1 => seqK x fun xs => u env S1 (fun y S2 => seqK y fun ys => Q (zipD xs.reverse ys.reverse) S2) E) E
theorem moZipSD {t u : TEd} (ht : MoE t) (hu : MoE u) : MoE (iZipSD t u) := fun env S Q Q' E E' h he q => ht _ _ _ _ _ _ (fun x S1 q1 => hu _ _ _ _ _ _ (fun y S2 q2 => by
  unfold zipSK at q2 ⊢
  split at q2
  · split at q2
    · exact ⟨q2.1, h _ _ q2.2⟩
    · exact q2.elim
  · exact q2.elim) he q1) he q
theorem moZipRD {t u : TEd} (ht : MoE t) (hu : MoE u) : MoE (iZipRD t u) := fun env S Q Q' E E' h he q => ht _ _ _ _ _ _ (fun x S1 q1 => q1.imp fun xs q1 => hu _ _ _ _ _ _ (fun y S2 q2 => q2.imp fun ys q2 => h _ _ q2) he q1) he q
section
variable {P : Program} {w : World} {K : PySem.W.Frag} {mg : Str → Option Value} {base : Heap} {N : List Str} {sc : Scope} {vw : Vw} {k : Nat} {X : Cx} {W : WX}
end
end Bl

namespace Go
open PySem PySem.Spec PyProof.Rows L2 Bl Lb
section
variable {env : Ev} {S : Sto} {E : EK} {t u : TEd} {Q : List D → Sto → Prop} {ds es : List D} {a b : D} {N : Nd} {g : Tg} {tb : TSd} {tt : TTd} {te : TEd} {k' : List D → Prop}
theorem zipS' (k : t env S (fun x S1 => u env S1 (fun y S2 => zipSK x y S2 Q) E) E) : iZipSD t u env S Q E := k
theorem zipST (h : Nat.beq ds.length es.length = true) (k : Q (zipD ds es) S) : zipSK (.tup ds) (.tup es) S Q := ⟨Nat.eq_of_beq_eq_true h, k⟩
theorem zipSL (h : Nat.beq ds.length es.length = true) (k : Q (zipD ds es) S) : zipSK (.lst ds) (.lst es) S Q := ⟨Nat.eq_of_beq_eq_true h, k⟩
theorem zipR' (k : t env S (fun x S1 => seqK x fun xs => u env S1 (fun y S2 => seqK y fun ys => Q (zipD xs.reverse ys.reverse) S2) E) E) : iZipRD t u env S Q E := k
theorem seqT (k : k' ds) : seqK (.tup ds) k' := k
theorem seqL (k : k' ds) : seqK (.lst ds) k' := k
theorem for_zc (k : forD g tb (.tup [a, b] :: zipD ds es) env S N) : forD g tb (zipD (a :: ds) (b :: es)) env S N := k
theorem for_zn (k : forD g tb [] env S N) : forD g tb (zipD [] es) env S N := k
theorem lg_zc {Q : List D → Sto → Prop} (k : lcGo g tt te env (.tup [a, b] :: zipD ds es) S Q) : lcGo g tt te env (zipD (a :: ds) (b :: es)) S Q := k
theorem lg_zn {Q : List D → Sto → Prop} (k : lcGo g tt te env [] S Q) : lcGo g tt te env (zipD [] es) S Q := k
end
end Go
namespace Go
open PySem PySem.Spec PyProof.Rows L2 Bl Lb
theorem appG {ta : TAd} {env : Ev} {S : Sto} {Q : DK} {E : EK} {r : Addr} {i : Nat} {xs : List D} (e : env[i]? = some (some (.ref r))) (h : S r = some xs) (k : ta env S (fun ds S2 => gApp r ds S2 Q) E) : dLm gApp (vr i) ta env S Q E := by
  unfold dLm
  refine vr_go e ?_
  exact ⟨by rw [h]; rfl, k⟩
theorem appK {r : Addr} {d : D} {xs : List D} {S : Sto} {Q : DK} (h : S r = some xs) (hl : xs.length < 1000) (k : Q .non (sup S r (xs ++ [d]))) : gApp r [d] S Q := by
  unfold gApp
  dsimp only
  rw [h]
  exact ⟨Nat.lt_trans hl (by decide), k⟩
theorem atI_last {α : Type} {xs : List α} {x : α} : atI (xs ++ [x]) (-1) = some x := by
  unfold atI ixN
  simp
  rw [if_pos (by omega)]
  simp
  rw [show (-1 + ((xs.length : Int) + 1)).toNat = xs.length by omega]
  simp
end Go
namespace Go
open PySem PySem.Spec PyProof.Rows L2 Bl Lb
theorem frz {i : Nat} {env : Ev} {S : Sto} {N : Nd} {t : TSd} {a : Addr} {ds : List D} (e : env[i]? = some (some (.ref a))) (h : S a = some ds) (k : t (env.set i (some (.lst ds))) (sdel S a) N) : sFrz i t env S N := by
  unfold sFrz
  rw [e]
  dsimp only
  rw [h]
  exact k
end Go

namespace Lb
open PySem PySem.Spec PyProof.Rows L2 Bl
/-! ### == of a thing and itself; what may be compared -/
mutual
theorem eqD_refl : ∀ d : D, pl d = true → eqD d d = true
  | .non, _ => rfl
  | .bl b, _ => by cases b <;> rfl
  | .int i, _ => by show (i == i) = true; exact beq_self_eq_true i
  | .str x, _ => by show (x == x) = true; exact beq_self_eq_true x
  | .tup ds, h => eqL_refl ds h
  | .lst ds, h => eqL_refl ds h
  | .ref _, h => by cases h
  | .obj _, h => by cases h
theorem eqL_refl : ∀ ds : List D, plL ds = true → PyData.eqvAll (pyL ds) (pyL ds) = true
  | [], _ => rfl
  | d :: ds, h => by
    obtain ⟨h1, h2⟩ := Bool.and_eq_true_iff.mp (show (pl d && plL ds) = true from h)
    show (PyData.eqv (py d) (py d) && PyData.eqvAll (pyL ds) (pyL ds)) = true
    rw [show PyData.eqv (py d) (py d) = true from eqD_refl d h1, eqL_refl ds h2]
    rfl
end
structure okN (n : Nat) (d : D) : Prop where
  p : pl d = true
  c : (py d).canLay0 = true
  d : (py d).depth ≤ n
theorem okN.ok {n : Nat} {d : D} (h : okN n d) (hn : n ≤ 64) : okD d := ⟨h.p, by
  unfold SeqAt.shaped
  rw [h.c]
  exact decide_eq_true (Nat.le_trans h.d hn)⟩
theorem okN.mono {m n : Nat} {d : D} (h : okN m d) (l : m ≤ n) : okN n d := ⟨h.p, h.c, Nat.le_trans h.d l⟩
theorem okN_int {n : Nat} (i : Int) : okN n (.int i) := ⟨rfl, rfl, Nat.zero_le _⟩
structure okNs (n : Nat) (ds : List D) : Prop where
  p : plL ds = true
  c : PyData.canLayAll0 (pyL ds) = true
  d : PyData.depthAll (pyL ds) ≤ n
theorem okNs_nil {n : Nat} : okNs n [] := ⟨rfl, rfl, Nat.zero_le _⟩
theorem okNs_cons {n : Nat} {d : D} {ds : List D} (h : okN n d) (k : okNs n ds) : okNs n (d :: ds) := ⟨by
  show (pl d && plL ds) = true
  rw [h.p, k.p]; rfl, by
  show (PyData.canLay0 (py d) && PyData.canLayAll0 (pyL ds)) = true
  rw [h.c, k.c]; rfl, by
  show max (PyData.depth (py d)) (PyData.depthAll (pyL ds)) ≤ n
  exact Nat.max_le.mpr ⟨h.d, k.d⟩⟩
theorem okNs_all {n : Nat} : ∀ {ds : List D}, (∀ d ∈ ds, okN n d) → okNs n ds
  | [], _ => okNs_nil
  | d :: ds, h => okNs_cons (h d (List.mem_cons_self ..)) (okNs_all fun e he => h e (List.mem_cons_of_mem _ he))
theorem okN_tup {n : Nat} {ds : List D} (h : okNs n ds) : okN (n + 1) (.tup ds) := ⟨h.p, h.c, by
  show PyData.depthAll (pyL ds) + 1 ≤ n + 1
  have := h.d
  omega⟩
theorem okN_lst {n : Nat} {ds : List D} (h : okNs n ds) : okN (n + 1) (.lst ds) := ⟨h.p, h.c, by
  show PyData.depthAll (pyL ds) + 1 ≤ n + 1
  have := h.d
  omega⟩
theorem okN_pr {n : Nat} (a b : Int) : okN (n + 1) (.tup [.int a, .int b]) := okN_tup (okNs_cons (okN_int _) (okNs_cons (okN_int _) okNs_nil))
end Lb

namespace Lb
open PySem PySem.Spec PyProof.Rows L2 Bl
end Lb

namespace Lb
open PySem PySem.Spec PyProof.Rows L2 Bl
local macro_rules | `(tactic| walk_at "bl0") => `(tactic| (with_reducible (first
  | (refine Go.gVr ?_; first | refine Go.vr0 ?_ | refine Go.vr1 ?_ | refine Go.vr2 ?_ | refine Go.vr3 ?_ | refine Go.vr4 ?_ | refine Go.vr5 ?_ | refine Go.vr6 ?_ | refine Go.vr7 ?_ | refine Go.vr8 ?_ | refine Go.vr9 ?_ | refine Go.vr10 ?_ | refine Go.vr11 ?_ | refine Go.vr12 ?_ | refine Go.vr13 ?_ | refine Go.vr14 ?_ | refine Go.vr15 ?_ | refine Go.vr16 ?_ | refine Go.vr17 ?_ | refine Go.vr18 ?_ | refine Go.vr19 ?_ | refine Go.vr20 ?_ | refine Go.vr21 ?_ | refine Go.vr22 ?_ | refine Go.vr23 ?_)
  | refine Go.seq ?_
  | refine Go.nx' ?_
  | refine Go.ret ?_
  | refine Go.if' ?_
  | refine Go.asg ?_
  | refine Go.par ?_
  | refine Go.drop ?_
  | refine Go.brk ?_
  | refine Go.cnt ?_
  | refine Go.raise ?_
  | refine Go.thru ?_
  | refine Go.tryAs ?_
  | refine Go.for' ?_
  | refine Go.sub ?_
  | refine Go.retN ?_
  | refine Go.par_cons ?_
  | refine Go.par_nil ?_
  | refine Go.cn' ?_
  | refine Go.two ?_
  | refine Go.nil ?_
  | refine Go.cons ?_
  | refine Go.tup ?_
  | refine Go.lst ?_
  | refine Go.lstR ?_
  | refine Go.tbl' ?_
  | refine Go.tblK' ?_
  | refine Go.ttr' ?_
  | refine Go.truB ?_
  | refine Go.truI ?_
  | refine Go.truN ?_
  | refine Go.and' ?_
  | refine Go.or' ?_
  | refine Go.not' ?_
  | refine Go.vOf' ?_
  | refine Go.vNot' ?_
  | refine Go.eIf' ?_
  | refine Go.ifT ?_
  | refine Go.ifF ?_
  | refine Go.ifN ?_
  | refine Go.add ?_
  | refine Go.sub' ?_
  | refine Go.lt ?_
  | refine Go.le ?_
  | refine Go.gt ?_
  | refine Go.ge ?_
  | refine Go.eqI ?_
  | refine Go.neI ?_
  | refine Go.is' ?_
  | refine Go.isNot' ?_
  | refine Go.chain ?_
  | refine Go.dB' ?_
  | refine Go.neg ?_
  | refine Go.neg' ?_
  | refine Go.abs' ?_
  | refine Go.lenT ?_
  | refine Go.lenL ?_
  | refine Go.max' ?_
  | refine Go.min' ?_
  | refine Go.intI ?_
  | refine Go.intB ?_
  | refine Go.tupL ?_
  | refine Go.tupT ?_
  | refine Go.isi ?_
  | refine Go.call ?_
  | refine Go.iVal' ?_
  | refine Go.iValT ?_
  | refine Go.iValL ?_
  | refine Go.r1 ?_
  | refine Go.r2 ?_
  | refine Go.star ?_
  | refine Go.l_cons ?_
  | refine Go.l_nil ?_
  | refine Go.enum' ?_
  | refine Go.rev' ?_
  | refine Go.zip' ?_
  | refine Go.wipe_nil ?_
  | refine Go.wipe_cons ?_
  | refine Go.iadd ?_
  | refine Go.sl ?_
  | refine Go.oN ?_
  | refine Go.oS ?_
  | refine Go.osK' ?_
  | refine Go.getL ?_
  | refine Go.lc ?_
  | refine Go.lcR ?_
  | refine Go.lg_nil ?_
  | refine Go.lg_cons ?_
  | refine Go.yes ?_
  | refine Go.for_nil ?_
  | refine Go.for_cons ?_
  | refine Go.revT ?_
  | refine Go.revL ?_
  | refine Go.zipT ?_
  | refine Go.zipL ?_
  | refine Go.tupK' rfl ?_
  | refine Go.lstK' rfl ?_
  | refine Go.callK' rfl rfl ?_
  | refine Go.lcL rfl ?_
  | refine Go.getLL' rfl ?_
  | refine Go.addT rfl ?_
  | (refine Go.gAsg ?_; first | refine Go.set0 ?_ | refine Go.set1 ?_ | refine Go.set2 ?_ | refine Go.set3 ?_ | refine Go.set4 ?_ | refine Go.set5 ?_ | refine Go.set6 ?_ | refine Go.set7 ?_ | refine Go.set8 ?_ | refine Go.set9 ?_ | refine Go.set10 ?_ | refine Go.set11 ?_ | refine Go.set12 ?_ | refine Go.set13 ?_ | refine Go.set14 ?_ | refine Go.set15 ?_ | refine Go.set16 ?_ | refine Go.set17 ?_ | refine Go.set18 ?_ | refine Go.set19 ?_ | refine Go.set20 ?_ | refine Go.set21 ?_ | refine Go.set22 ?_ | refine Go.set23 ?_ | refine Go.tp_cons ?_ | refine Go.tp_nil ?_)
  | (refine Go.gIxT ?_; first | refine Go.ixT0 ?_ | refine Go.ixT1 ?_ | refine Go.ixT2 ?_ | refine Go.ixT3 ?_ | refine Go.ixT4 ?_ | refine Go.ixT5 ?_ | refine Go.ixT6 ?_ | refine Go.ixT7 ?_)
  | (refine Go.gIxL ?_; first | refine Go.ixL0 ?_ | refine Go.ixL1 ?_ | refine Go.ixL2 ?_ | refine Go.ixL3 ?_ | refine Go.ixL4 ?_ | refine Go.ixL5 ?_ | refine Go.ixL6 ?_ | refine Go.ixL7 ?_)
  | (refine Go.gAug ?_; first | refine Go.aug0 ?_ | refine Go.aug1 ?_ | refine Go.aug2 ?_ | refine Go.aug3 ?_ | refine Go.aug4 ?_ | refine Go.aug5 ?_ | refine Go.aug6 ?_ | refine Go.aug7 ?_ | refine Go.aug8 ?_ | refine Go.aug9 ?_ | refine Go.aug10 ?_ | refine Go.aug11 ?_ | refine Go.aug12 ?_ | refine Go.aug13 ?_ | refine Go.aug14 ?_ | refine Go.aug15 ?_ | refine Go.aug16 ?_ | refine Go.aug17 ?_ | refine Go.aug18 ?_ | refine Go.aug19 ?_ | refine Go.aug20 ?_ | refine Go.aug21 ?_ | refine Go.aug22 ?_ | refine Go.aug23 ?_)
  | (refine Go.gStar ?_; first | refine Go.startup0 ?_ | refine Go.starlst0 ?_ | refine Go.startup1 ?_ | refine Go.starlst1 ?_ | refine Go.startup2 ?_ | refine Go.starlst2 ?_ | refine Go.startup3 ?_ | refine Go.starlst3 ?_ | refine Go.startup4 ?_ | refine Go.starlst4 ?_ | refine Go.startup_2 ?_ | refine Go.starlst_2 ?_ | refine Go.startup_3 ?_ | refine Go.starlst_3 ?_ | refine Go.startup_4 ?_ | refine Go.starlst_4 ?_)
  | refine Go.slfT1 ?_ | refine Go.sltT1 ?_ | refine Go.slfL1 ?_ | refine Go.sltL1 ?_ | refine Go.slfT2 ?_ | refine Go.sltT2 ?_ | refine Go.slfL2 ?_ | refine Go.sltL2 ?_ | refine Go.slfT3 ?_ | refine Go.sltT3 ?_ | refine Go.slfL3 ?_ | refine Go.sltL3 ?_ | refine Go.slfT4 ?_ | refine Go.sltT4 ?_ | refine Go.slfL4 ?_ | refine Go.sltL4 ?_
  | (refine Go.gUns ?_; first | refine Go.uns0 ?_ | refine Go.uns1 ?_ | refine Go.uns2 ?_ | refine Go.uns3 ?_ | refine Go.uns4 ?_ | refine Go.uns5 ?_ | refine Go.uns6 ?_ | refine Go.uns7 ?_ | refine Go.uns8 ?_ | refine Go.uns9 ?_ | refine Go.uns10 ?_ | refine Go.uns11 ?_ | refine Go.uns12 ?_ | refine Go.uns13 ?_ | refine Go.uns14 ?_ | refine Go.uns15 ?_ | refine Go.uns16 ?_ | refine Go.uns17 ?_ | refine Go.uns18 ?_ | refine Go.uns19 ?_ | refine Go.uns20 ?_ | refine Go.uns21 ?_ | refine Go.uns22 ?_ | refine Go.uns23 ?_)
  | refine Go.entup0 ?_ | refine Go.enlst0 ?_ | refine Go.entup1 ?_ | refine Go.enlst1 ?_ | refine Go.entup2 ?_ | refine Go.enlst2 ?_ | refine Go.entup3 ?_ | refine Go.enlst3 ?_ | refine Go.entup4 ?_ | refine Go.enlst4 ?_ | refine Go.entup5 ?_ | refine Go.enlst5 ?_ | refine Go.entup6 ?_ | refine Go.enlst6 ?_)))
local macro_rules | `(tactic| walk_at "bl1") => `(tactic| first | ((with_reducible refine Go.gEqS ?_); (first | refine Go.eqS (b := true) ⟨rfl, by decide +kernel⟩ ⟨rfl, by decide +kernel⟩ rfl ?_ | refine Go.eqS (b := false) ⟨rfl, by decide +kernel⟩ ⟨rfl, by decide +kernel⟩ rfl ?_)) | ((with_reducible refine Go.gNeS ?_); (first | refine Go.neS (b := true) ⟨rfl, by decide +kernel⟩ ⟨rfl, by decide +kernel⟩ rfl ?_ | refine Go.neS (b := false) ⟨rfl, by decide +kernel⟩ ⟨rfl, by decide +kernel⟩ rfl ?_)) | walk_at "bl0" | ((with_reducible refine Go.gAll ?_); (refine Go.allB (by rfl) ?_)) | ((with_reducible refine Go.gIxT ?_); (refine Go.ixT (by rfl) ?_)) | ((with_reducible refine Go.gIxL ?_); (refine Go.ixL (by rfl) ?_)))
local macro_rules | `(tactic| walk_at "bl") => `(tactic| (repeat walk_at "bl1"))
/-! ### points, things, faces -/
abbrev P2 := Int × Int
abbrev pt (p : P2) : D := .tup [.int p.1, .int p.2]
inductive Th where
  | spot (p : P2)
  | cord (p q : P2)
  | bow (c p q : P2)
inductive Fc where
  | side (a b : P2)
  | round (c : P2) (r : Int) (f l : P2)
def Bd (p : P2) : Prop := p.1.natAbs ≤ 1000 ∧ p.2.natAbs ≤ 1000
def dif (a b : P2) : P2 := (a.1 - b.1, a.2 - b.2)
def dot (a b : P2) : Int := a.1 * b.1 + a.2 * b.2
def crs (a b : P2) : Int := a.1 * b.2 - a.2 * b.1
def far (a b : P2) : Int := dot (dif a b) (dif a b)
def Whole (n : Int) : Prop := ∃ r : Int, 0 ≤ r ∧ n = r * r
structure BowOk (c p q : P2) : Prop where
  ne : p ≠ q
  eq : far c p = far c q
  wr : Whole (far c p)
  wd : Whole (far p q)
  tn : 0 ≤ crs (dif p c) (dif q c)
/-- a direction in lowest terms -/
def low (d : P2) : P2 := (d.1 / (Int.gcd d.1 d.2 : Int), d.2 / (Int.gcd d.1 d.2 : Int))
theorem far_eq (a b : P2) : far a b = (a.1 - b.1) * (a.1 - b.1) + (a.2 - b.2) * (a.2 - b.2) := rfl
theorem sq0 {x : Int} (h : x * x = 0) : x = 0 := by
  rcases Int.mul_eq_zero.mp h with z | z <;> exact z
theorem far_zero {a b : P2} (h : far a b = 0) : a = b := by
  rw [far_eq] at h
  have h1 : ∀ x : Int, 0 ≤ x * x := fun x => by
    rcases Int.le_total 0 x with z | z
    · exact Int.mul_nonneg z z
    · exact Int.mul_nonneg_of_nonpos_of_nonpos z z
  have a1 := h1 (a.1 - b.1)
  have a2 := h1 (a.2 - b.2)
  have b1 := sq0 (x := a.1 - b.1) (by omega)
  have b2 := sq0 (x := a.2 - b.2) (by omega)
  exact Prod.ext (by omega) (by omega)
theorem far_self (a : P2) : far a a = 0 := by
  rw [far_eq]
  simp
theorem BowOk.np {c p q : P2} (h : BowOk c p q) : p ≠ c ∧ q ≠ c := by
  have e := h.eq
  refine ⟨fun z => ?_, fun z => ?_⟩
  · rw [z, far_self] at e
    exact h.ne (z.trans (far_zero e.symm))
  · rw [z, far_self] at e
    exact h.ne ((far_zero e).symm.trans z.symm)
/-! the law's faces -/
end Lb

namespace Lb
open PySem PySem.Spec PyProof.Rows L2 Bl
local macro_rules | `(tactic| walk_at "bl0") => `(tactic| (with_reducible (first
  | (refine Go.gVr ?_; first | refine Go.vr0 ?_ | refine Go.vr1 ?_ | refine Go.vr2 ?_ | refine Go.vr3 ?_ | refine Go.vr4 ?_ | refine Go.vr5 ?_ | refine Go.vr6 ?_ | refine Go.vr7 ?_ | refine Go.vr8 ?_ | refine Go.vr9 ?_ | refine Go.vr10 ?_ | refine Go.vr11 ?_ | refine Go.vr12 ?_ | refine Go.vr13 ?_ | refine Go.vr14 ?_ | refine Go.vr15 ?_ | refine Go.vr16 ?_ | refine Go.vr17 ?_ | refine Go.vr18 ?_ | refine Go.vr19 ?_ | refine Go.vr20 ?_ | refine Go.vr21 ?_ | refine Go.vr22 ?_ | refine Go.vr23 ?_)
  | refine Go.seq ?_
  | refine Go.nx' ?_
  | refine Go.ret ?_
  | refine Go.if' ?_
  | refine Go.asg ?_
  | refine Go.par ?_
  | refine Go.drop ?_
  | refine Go.brk ?_
  | refine Go.cnt ?_
  | refine Go.raise ?_
  | refine Go.thru ?_
  | refine Go.tryAs ?_
  | refine Go.for' ?_
  | refine Go.sub ?_
  | refine Go.retN ?_
  | refine Go.par_cons ?_
  | refine Go.par_nil ?_
  | refine Go.cn' ?_
  | refine Go.two ?_
  | refine Go.nil ?_
  | refine Go.cons ?_
  | refine Go.tup ?_
  | refine Go.lst ?_
  | refine Go.lstR ?_
  | refine Go.tbl' ?_
  | refine Go.tblK' ?_
  | refine Go.ttr' ?_
  | refine Go.truB ?_
  | refine Go.truI ?_
  | refine Go.truN ?_
  | refine Go.and' ?_
  | refine Go.or' ?_
  | refine Go.not' ?_
  | refine Go.vOf' ?_
  | refine Go.vNot' ?_
  | refine Go.eIf' ?_
  | refine Go.ifT ?_
  | refine Go.ifF ?_
  | refine Go.ifN ?_
  | refine Go.add ?_
  | refine Go.sub' ?_
  | refine Go.lt ?_
  | refine Go.le ?_
  | refine Go.gt ?_
  | refine Go.ge ?_
  | refine Go.eqI ?_
  | refine Go.neI ?_
  | refine Go.is' ?_
  | refine Go.isNot' ?_
  | refine Go.chain ?_
  | refine Go.dB' ?_
  | refine Go.neg ?_
  | refine Go.neg' ?_
  | refine Go.abs' ?_
  | refine Go.lenT ?_
  | refine Go.lenL ?_
  | refine Go.max' ?_
  | refine Go.min' ?_
  | refine Go.intI ?_
  | refine Go.intB ?_
  | refine Go.tupL ?_
  | refine Go.tupT ?_
  | refine Go.isi ?_
  | refine Go.call ?_
  | refine Go.iVal' ?_
  | refine Go.iValT ?_
  | refine Go.iValL ?_
  | refine Go.r1 ?_
  | refine Go.r2 ?_
  | refine Go.star ?_
  | refine Go.l_cons ?_
  | refine Go.l_nil ?_
  | refine Go.enum' ?_
  | refine Go.rev' ?_
  | refine Go.zip' ?_
  | refine Go.wipe_nil ?_
  | refine Go.wipe_cons ?_
  | refine Go.iadd ?_
  | refine Go.sl ?_
  | refine Go.oN ?_
  | refine Go.oS ?_
  | refine Go.osK' ?_
  | refine Go.getL ?_
  | refine Go.lc ?_
  | refine Go.lcR ?_
  | refine Go.lg_nil ?_
  | refine Go.lg_cons ?_
  | refine Go.yes ?_
  | refine Go.for_nil ?_
  | refine Go.for_cons ?_
  | refine Go.revT ?_
  | refine Go.revL ?_
  | refine Go.zipT ?_
  | refine Go.zipL ?_
  | refine Go.tupK' rfl ?_
  | refine Go.lstK' rfl ?_
  | refine Go.callK' rfl rfl ?_
  | refine Go.lcL rfl ?_
  | refine Go.getLL' rfl ?_
  | refine Go.addT rfl ?_
  | (refine Go.gAsg ?_; first | refine Go.set0 ?_ | refine Go.set1 ?_ | refine Go.set2 ?_ | refine Go.set3 ?_ | refine Go.set4 ?_ | refine Go.set5 ?_ | refine Go.set6 ?_ | refine Go.set7 ?_ | refine Go.set8 ?_ | refine Go.set9 ?_ | refine Go.set10 ?_ | refine Go.set11 ?_ | refine Go.set12 ?_ | refine Go.set13 ?_ | refine Go.set14 ?_ | refine Go.set15 ?_ | refine Go.set16 ?_ | refine Go.set17 ?_ | refine Go.set18 ?_ | refine Go.set19 ?_ | refine Go.set20 ?_ | refine Go.set21 ?_ | refine Go.set22 ?_ | refine Go.set23 ?_ | refine Go.tp_cons ?_ | refine Go.tp_nil ?_)
  | (refine Go.gIxT ?_; first | refine Go.ixT0 ?_ | refine Go.ixT1 ?_ | refine Go.ixT2 ?_ | refine Go.ixT3 ?_ | refine Go.ixT4 ?_ | refine Go.ixT5 ?_ | refine Go.ixT6 ?_ | refine Go.ixT7 ?_)
  | (refine Go.gIxL ?_; first | refine Go.ixL0 ?_ | refine Go.ixL1 ?_ | refine Go.ixL2 ?_ | refine Go.ixL3 ?_ | refine Go.ixL4 ?_ | refine Go.ixL5 ?_ | refine Go.ixL6 ?_ | refine Go.ixL7 ?_)
  | (refine Go.gAug ?_; first | refine Go.aug0 ?_ | refine Go.aug1 ?_ | refine Go.aug2 ?_ | refine Go.aug3 ?_ | refine Go.aug4 ?_ | refine Go.aug5 ?_ | refine Go.aug6 ?_ | refine Go.aug7 ?_ | refine Go.aug8 ?_ | refine Go.aug9 ?_ | refine Go.aug10 ?_ | refine Go.aug11 ?_ | refine Go.aug12 ?_ | refine Go.aug13 ?_ | refine Go.aug14 ?_ | refine Go.aug15 ?_ | refine Go.aug16 ?_ | refine Go.aug17 ?_ | refine Go.aug18 ?_ | refine Go.aug19 ?_ | refine Go.aug20 ?_ | refine Go.aug21 ?_ | refine Go.aug22 ?_ | refine Go.aug23 ?_)
  | (refine Go.gStar ?_; first | refine Go.startup0 ?_ | refine Go.starlst0 ?_ | refine Go.startup1 ?_ | refine Go.starlst1 ?_ | refine Go.startup2 ?_ | refine Go.starlst2 ?_ | refine Go.startup3 ?_ | refine Go.starlst3 ?_ | refine Go.startup4 ?_ | refine Go.starlst4 ?_ | refine Go.startup_2 ?_ | refine Go.starlst_2 ?_ | refine Go.startup_3 ?_ | refine Go.starlst_3 ?_ | refine Go.startup_4 ?_ | refine Go.starlst_4 ?_)
  | refine Go.slfT1 ?_ | refine Go.sltT1 ?_ | refine Go.slfL1 ?_ | refine Go.sltL1 ?_ | refine Go.slfT2 ?_ | refine Go.sltT2 ?_ | refine Go.slfL2 ?_ | refine Go.sltL2 ?_ | refine Go.slfT3 ?_ | refine Go.sltT3 ?_ | refine Go.slfL3 ?_ | refine Go.sltL3 ?_ | refine Go.slfT4 ?_ | refine Go.sltT4 ?_ | refine Go.slfL4 ?_ | refine Go.sltL4 ?_
  | (refine Go.gUns ?_; first | refine Go.uns0 ?_ | refine Go.uns1 ?_ | refine Go.uns2 ?_ | refine Go.uns3 ?_ | refine Go.uns4 ?_ | refine Go.uns5 ?_ | refine Go.uns6 ?_ | refine Go.uns7 ?_ | refine Go.uns8 ?_ | refine Go.uns9 ?_ | refine Go.uns10 ?_ | refine Go.uns11 ?_ | refine Go.uns12 ?_ | refine Go.uns13 ?_ | refine Go.uns14 ?_ | refine Go.uns15 ?_ | refine Go.uns16 ?_ | refine Go.uns17 ?_ | refine Go.uns18 ?_ | refine Go.uns19 ?_ | refine Go.uns20 ?_ | refine Go.uns21 ?_ | refine Go.uns22 ?_ | refine Go.uns23 ?_)
  | refine Go.entup0 ?_ | refine Go.enlst0 ?_ | refine Go.entup1 ?_ | refine Go.enlst1 ?_ | refine Go.entup2 ?_ | refine Go.enlst2 ?_ | refine Go.entup3 ?_ | refine Go.enlst3 ?_ | refine Go.entup4 ?_ | refine Go.enlst4 ?_ | refine Go.entup5 ?_ | refine Go.enlst5 ?_ | refine Go.entup6 ?_ | refine Go.enlst6 ?_)))
local macro_rules | `(tactic| walk_at "bl1") => `(tactic| first | ((with_reducible refine Go.gEqS ?_); (first | refine Go.eqS (b := true) ⟨rfl, by decide +kernel⟩ ⟨rfl, by decide +kernel⟩ rfl ?_ | refine Go.eqS (b := false) ⟨rfl, by decide +kernel⟩ ⟨rfl, by decide +kernel⟩ rfl ?_)) | ((with_reducible refine Go.gNeS ?_); (first | refine Go.neS (b := true) ⟨rfl, by decide +kernel⟩ ⟨rfl, by decide +kernel⟩ rfl ?_ | refine Go.neS (b := false) ⟨rfl, by decide +kernel⟩ ⟨rfl, by decide +kernel⟩ rfl ?_)) | walk_at "bl0" | ((with_reducible refine Go.gAll ?_); (refine Go.allB (by rfl) ?_)) | ((with_reducible refine Go.gIxT ?_); (refine Go.ixT (by rfl) ?_)) | ((with_reducible refine Go.gIxL ?_); (refine Go.ixL (by rfl) ?_)))
local macro_rules | `(tactic| walk_at "bl") => `(tactic| (repeat walk_at "bl1"))
/-! ### the drawn things -/
def rot : Nat → P2 → P2
  | 0, p => p
  | n + 1, p => (0 - (rot n p).2, (rot n p).1)
def plus2 (a b : P2) : P2 := (a.1 + b.1, a.2 + b.2)
theorem rot_dot (u v : P2) : ∀ n : Nat, dot (rot n u) (rot n v) = dot u v
  | 0 => rfl
  | n + 1 => by
    rw [← rot_dot u v n]
    unfold dot
    show (0 - (rot n u).2) * (0 - (rot n v).2) + (rot n u).1 * (rot n v).1 = _
    grind
theorem rot_crs (u v : P2) : ∀ n : Nat, crs (rot n u) (rot n v) = crs u v
  | 0 => rfl
  | n + 1 => by
    rw [← rot_crs u v n]
    unfold crs
    show (0 - (rot n u).2) * (rot n v).1 - (rot n u).1 * (0 - (rot n v).2) = _
    grind
theorem far_plus (b u v : P2) : far (plus2 b u) (plus2 b v) = dot u u - 2 * dot u v + dot v v := by
  unfold far dif dot plus2
  dsimp only
  grind
theorem far_plus0 (b u : P2) : far b (plus2 b u) = dot u u := by
  unfold far dif dot plus2
  dsimp only
  grind
theorem dif_plus0 (b u : P2) : dif (plus2 b u) b = u := by
  unfold dif plus2
  dsimp only
  exact Prod.ext (by omega) (by omega)
theorem BowOk.mk' {b u v : P2} {n : Nat} {r d : Int} (h1 : dot u u = r * r) (h2 : dot v v = r * r) (hr : 0 ≤ r) (h3 : dot u u - 2 * dot u v + dot v v = d * d) (hd : 0 < d) (h4 : 0 ≤ crs u v) : BowOk b (plus2 b (rot n u)) (plus2 b (rot n v)) := by
  have e : far (plus2 b (rot n u)) (plus2 b (rot n v)) = d * d := by rw [far_plus, rot_dot, rot_dot, rot_dot, h3]
  refine ⟨fun z => ?_, ?_, ⟨r, hr, ?_⟩, ⟨d, by omega, e⟩, ?_⟩
  · rw [z, far_self] at e
    have := Int.mul_pos hd hd
    omega
  · rw [far_plus0, far_plus0, rot_dot, rot_dot, h1, h2]
  · rw [far_plus0, rot_dot, h1]
  · rw [dif_plus0, dif_plus0, rot_crs]
    exact h4
def PIn (m : Nat) (p : P2) : Prop := p.1.natAbs ≤ m ∧ p.2.natAbs ≤ m
theorem PIn.bd {m : Nat} {p : P2} (h : PIn m p) (hm : m ≤ 1000) : Bd p := ⟨Nat.le_trans h.1 hm, Nat.le_trans h.2 hm⟩
/-- how a thing is drawn -/
structure Shape (x y r : Int) : Prop where
  e : x * x + y * y = r * r
  x0 : 0 < x
  x1 : x ≤ 15
  y0 : 0 ≤ y
  y1 : y ≤ 15
  r0 : 0 < r
end Lb

namespace Lb
open PySem PySem.Spec PyProof.Rows L2 Bl
end Lb

namespace Lb
open PySem PySem.Spec PyProof.Rows L2 Bl
local macro_rules | `(tactic| walk_at "bl0") => `(tactic| (with_reducible (first
  | (refine Go.gVr ?_; first | refine Go.vr0 ?_ | refine Go.vr1 ?_ | refine Go.vr2 ?_ | refine Go.vr3 ?_ | refine Go.vr4 ?_ | refine Go.vr5 ?_ | refine Go.vr6 ?_ | refine Go.vr7 ?_ | refine Go.vr8 ?_ | refine Go.vr9 ?_ | refine Go.vr10 ?_ | refine Go.vr11 ?_ | refine Go.vr12 ?_ | refine Go.vr13 ?_ | refine Go.vr14 ?_ | refine Go.vr15 ?_ | refine Go.vr16 ?_ | refine Go.vr17 ?_ | refine Go.vr18 ?_ | refine Go.vr19 ?_ | refine Go.vr20 ?_ | refine Go.vr21 ?_ | refine Go.vr22 ?_ | refine Go.vr23 ?_)
  | refine Go.seq ?_
  | refine Go.nx' ?_
  | refine Go.ret ?_
  | refine Go.if' ?_
  | refine Go.asg ?_
  | refine Go.par ?_
  | refine Go.drop ?_
  | refine Go.brk ?_
  | refine Go.cnt ?_
  | refine Go.raise ?_
  | refine Go.thru ?_
  | refine Go.tryAs ?_
  | refine Go.for' ?_
  | refine Go.sub ?_
  | refine Go.retN ?_
  | refine Go.par_cons ?_
  | refine Go.par_nil ?_
  | refine Go.cn' ?_
  | refine Go.two ?_
  | refine Go.nil ?_
  | refine Go.cons ?_
  | refine Go.tup ?_
  | refine Go.lst ?_
  | refine Go.lstR ?_
  | refine Go.tbl' ?_
  | refine Go.tblK' ?_
  | refine Go.ttr' ?_
  | refine Go.truB ?_
  | refine Go.truI ?_
  | refine Go.truN ?_
  | refine Go.and' ?_
  | refine Go.or' ?_
  | refine Go.not' ?_
  | refine Go.vOf' ?_
  | refine Go.vNot' ?_
  | refine Go.eIf' ?_
  | refine Go.ifT ?_
  | refine Go.ifF ?_
  | refine Go.ifN ?_
  | refine Go.add ?_
  | refine Go.sub' ?_
  | refine Go.lt ?_
  | refine Go.le ?_
  | refine Go.gt ?_
  | refine Go.ge ?_
  | refine Go.eqI ?_
  | refine Go.neI ?_
  | refine Go.is' ?_
  | refine Go.isNot' ?_
  | refine Go.chain ?_
  | refine Go.dB' ?_
  | refine Go.neg ?_
  | refine Go.neg' ?_
  | refine Go.abs' ?_
  | refine Go.lenT ?_
  | refine Go.lenL ?_
  | refine Go.max' ?_
  | refine Go.min' ?_
  | refine Go.intI ?_
  | refine Go.intB ?_
  | refine Go.tupL ?_
  | refine Go.tupT ?_
  | refine Go.isi ?_
  | refine Go.call ?_
  | refine Go.iVal' ?_
  | refine Go.iValT ?_
  | refine Go.iValL ?_
  | refine Go.r1 ?_
  | refine Go.r2 ?_
  | refine Go.star ?_
  | refine Go.l_cons ?_
  | refine Go.l_nil ?_
  | refine Go.enum' ?_
  | refine Go.rev' ?_
  | refine Go.zip' ?_
  | refine Go.wipe_nil ?_
  | refine Go.wipe_cons ?_
  | refine Go.iadd ?_
  | refine Go.sl ?_
  | refine Go.oN ?_
  | refine Go.oS ?_
  | refine Go.osK' ?_
  | refine Go.getL ?_
  | refine Go.lc ?_
  | refine Go.lcR ?_
  | refine Go.lg_nil ?_
  | refine Go.lg_cons ?_
  | refine Go.yes ?_
  | refine Go.for_nil ?_
  | refine Go.for_cons ?_
  | refine Go.revT ?_
  | refine Go.revL ?_
  | refine Go.zipT ?_
  | refine Go.zipL ?_
  | refine Go.tupK' rfl ?_
  | refine Go.lstK' rfl ?_
  | refine Go.callK' rfl rfl ?_
  | refine Go.lcL rfl ?_
  | refine Go.getLL' rfl ?_
  | refine Go.addT rfl ?_
  | (refine Go.gAsg ?_; first | refine Go.set0 ?_ | refine Go.set1 ?_ | refine Go.set2 ?_ | refine Go.set3 ?_ | refine Go.set4 ?_ | refine Go.set5 ?_ | refine Go.set6 ?_ | refine Go.set7 ?_ | refine Go.set8 ?_ | refine Go.set9 ?_ | refine Go.set10 ?_ | refine Go.set11 ?_ | refine Go.set12 ?_ | refine Go.set13 ?_ | refine Go.set14 ?_ | refine Go.set15 ?_ | refine Go.set16 ?_ | refine Go.set17 ?_ | refine Go.set18 ?_ | refine Go.set19 ?_ | refine Go.set20 ?_ | refine Go.set21 ?_ | refine Go.set22 ?_ | refine Go.set23 ?_ | refine Go.tp_cons ?_ | refine Go.tp_nil ?_)
  | (refine Go.gIxT ?_; first | refine Go.ixT0 ?_ | refine Go.ixT1 ?_ | refine Go.ixT2 ?_ | refine Go.ixT3 ?_ | refine Go.ixT4 ?_ | refine Go.ixT5 ?_ | refine Go.ixT6 ?_ | refine Go.ixT7 ?_)
  | (refine Go.gIxL ?_; first | refine Go.ixL0 ?_ | refine Go.ixL1 ?_ | refine Go.ixL2 ?_ | refine Go.ixL3 ?_ | refine Go.ixL4 ?_ | refine Go.ixL5 ?_ | refine Go.ixL6 ?_ | refine Go.ixL7 ?_)
  | (refine Go.gAug ?_; first | refine Go.aug0 ?_ | refine Go.aug1 ?_ | refine Go.aug2 ?_ | refine Go.aug3 ?_ | refine Go.aug4 ?_ | refine Go.aug5 ?_ | refine Go.aug6 ?_ | refine Go.aug7 ?_ | refine Go.aug8 ?_ | refine Go.aug9 ?_ | refine Go.aug10 ?_ | refine Go.aug11 ?_ | refine Go.aug12 ?_ | refine Go.aug13 ?_ | refine Go.aug14 ?_ | refine Go.aug15 ?_ | refine Go.aug16 ?_ | refine Go.aug17 ?_ | refine Go.aug18 ?_ | refine Go.aug19 ?_ | refine Go.aug20 ?_ | refine Go.aug21 ?_ | refine Go.aug22 ?_ | refine Go.aug23 ?_)
  | (refine Go.gStar ?_; first | refine Go.startup0 ?_ | refine Go.starlst0 ?_ | refine Go.startup1 ?_ | refine Go.starlst1 ?_ | refine Go.startup2 ?_ | refine Go.starlst2 ?_ | refine Go.startup3 ?_ | refine Go.starlst3 ?_ | refine Go.startup4 ?_ | refine Go.starlst4 ?_ | refine Go.startup_2 ?_ | refine Go.starlst_2 ?_ | refine Go.startup_3 ?_ | refine Go.starlst_3 ?_ | refine Go.startup_4 ?_ | refine Go.starlst_4 ?_)
  | refine Go.slfT1 ?_ | refine Go.sltT1 ?_ | refine Go.slfL1 ?_ | refine Go.sltL1 ?_ | refine Go.slfT2 ?_ | refine Go.sltT2 ?_ | refine Go.slfL2 ?_ | refine Go.sltL2 ?_ | refine Go.slfT3 ?_ | refine Go.sltT3 ?_ | refine Go.slfL3 ?_ | refine Go.sltL3 ?_ | refine Go.slfT4 ?_ | refine Go.sltT4 ?_ | refine Go.slfL4 ?_ | refine Go.sltL4 ?_
  | (refine Go.gUns ?_; first | refine Go.uns0 ?_ | refine Go.uns1 ?_ | refine Go.uns2 ?_ | refine Go.uns3 ?_ | refine Go.uns4 ?_ | refine Go.uns5 ?_ | refine Go.uns6 ?_ | refine Go.uns7 ?_ | refine Go.uns8 ?_ | refine Go.uns9 ?_ | refine Go.uns10 ?_ | refine Go.uns11 ?_ | refine Go.uns12 ?_ | refine Go.uns13 ?_ | refine Go.uns14 ?_ | refine Go.uns15 ?_ | refine Go.uns16 ?_ | refine Go.uns17 ?_ | refine Go.uns18 ?_ | refine Go.uns19 ?_ | refine Go.uns20 ?_ | refine Go.uns21 ?_ | refine Go.uns22 ?_ | refine Go.uns23 ?_)
  | refine Go.entup0 ?_ | refine Go.enlst0 ?_ | refine Go.entup1 ?_ | refine Go.enlst1 ?_ | refine Go.entup2 ?_ | refine Go.enlst2 ?_ | refine Go.entup3 ?_ | refine Go.enlst3 ?_ | refine Go.entup4 ?_ | refine Go.enlst4 ?_ | refine Go.entup5 ?_ | refine Go.enlst5 ?_ | refine Go.entup6 ?_ | refine Go.enlst6 ?_)))
local macro_rules | `(tactic| walk_at "bl1") => `(tactic| first | ((with_reducible refine Go.gEqS ?_); (first | refine Go.eqS (b := true) ⟨rfl, by decide +kernel⟩ ⟨rfl, by decide +kernel⟩ rfl ?_ | refine Go.eqS (b := false) ⟨rfl, by decide +kernel⟩ ⟨rfl, by decide +kernel⟩ rfl ?_)) | ((with_reducible refine Go.gNeS ?_); (first | refine Go.neS (b := true) ⟨rfl, by decide +kernel⟩ ⟨rfl, by decide +kernel⟩ rfl ?_ | refine Go.neS (b := false) ⟨rfl, by decide +kernel⟩ ⟨rfl, by decide +kernel⟩ rfl ?_)) | walk_at "bl0" | ((with_reducible refine Go.gAll ?_); (refine Go.allB (by rfl) ?_)) | ((with_reducible refine Go.gIxT ?_); (refine Go.ixT (by rfl) ?_)) | ((with_reducible refine Go.gIxL ?_); (refine Go.ixL (by rfl) ?_)))
local macro_rules | `(tactic| walk_at "bl") => `(tactic| (repeat walk_at "bl1"))
/-! ### directions, quarters, how long faces are -/
/-- a direction of a whole length -/
structure DirOk (n : Nat) (v : P2) : Prop where
  ne : v ≠ (0, 0)
  w : Whole (dot v v)
  s1 : sm n v.1
  s2 : sm n v.2
theorem Whole.isq {n : Int} (h : Whole n) : (isq n.toNat : Int) * isq n.toNat = n := by
  obtain ⟨r, r0, rfl⟩ := h
  obtain ⟨m, rfl⟩ := Int.eq_ofNat_of_zero_le r0
  have e : ((m : Int) * m).toNat = m * m := by
    have : ((m : Int) * m) = ((m * m : Nat) : Int) := by push_cast; rfl
    rw [this, Int.toNat_natCast]
  rw [e, isq_sq]
/-- whether less than a quarter lies between -/
def cnd (h l : P2) : Prop := 0 ≤ crs h l ∧ 0 < dot h l
instance (h l : P2) : Decidable (cnd h l) := by unfold cnd; infer_instance
/-- a loop over made items -/
theorem forD_map {α : Type} {f : α → D} {g : Tg} {b : TSd} {N : Nd} (P : List α → Ev → Sto → Prop) (turn : ∀ x xs env S, P (x :: xs) env S → ∃ e1, asgT S g (f x) env = some e1 ∧ ∀ N' : Nd, (∀ e s, P xs e s → N'.nx e s) → (∀ e s, P xs e s → N'.ct e s) → N'.rt = N.rt → N'.bk = N.nx → N'.ex = N.ex → b e1 S N') (fin : ∀ env S, P [] env S → N.nx env S) : ∀ (xs : List α) {env : Ev} {S : Sto}, P xs env S → forD g b (xs.map f) env S N
  | [], env, S, h => fin env S h
  | x :: xs, env, S, h => by
    obtain ⟨e1, ea, hb⟩ := turn x xs env S h
    rw [List.map_cons]
    unfold forD
    rw [ea]
    exact hb _ (fun e s q => forD_map P turn fin xs q) (fun e s q => forD_map P turn fin xs q) rfl rfl rfl
/-! the faces are good -/
end Lb

namespace Lb
open PySem PySem.Spec PyProof.Rows L2 Bl
end Lb

namespace Lb
open PySem PySem.Spec PyProof.Rows L2 Bl
local macro_rules | `(tactic| walk_at "bl0") => `(tactic| (with_reducible (first
  | (refine Go.gVr ?_; first | refine Go.vr0 ?_ | refine Go.vr1 ?_ | refine Go.vr2 ?_ | refine Go.vr3 ?_ | refine Go.vr4 ?_ | refine Go.vr5 ?_ | refine Go.vr6 ?_ | refine Go.vr7 ?_ | refine Go.vr8 ?_ | refine Go.vr9 ?_ | refine Go.vr10 ?_ | refine Go.vr11 ?_ | refine Go.vr12 ?_ | refine Go.vr13 ?_ | refine Go.vr14 ?_ | refine Go.vr15 ?_ | refine Go.vr16 ?_ | refine Go.vr17 ?_ | refine Go.vr18 ?_ | refine Go.vr19 ?_ | refine Go.vr20 ?_ | refine Go.vr21 ?_ | refine Go.vr22 ?_ | refine Go.vr23 ?_)
  | refine Go.seq ?_
  | refine Go.nx' ?_
  | refine Go.ret ?_
  | refine Go.if' ?_
  | refine Go.asg ?_
  | refine Go.par ?_
  | refine Go.drop ?_
  | refine Go.brk ?_
  | refine Go.cnt ?_
  | refine Go.raise ?_
  | refine Go.thru ?_
  | refine Go.tryAs ?_
  | refine Go.for' ?_
  | refine Go.sub ?_
  | refine Go.retN ?_
  | refine Go.par_cons ?_
  | refine Go.par_nil ?_
  | refine Go.cn' ?_
  | refine Go.two ?_
  | refine Go.nil ?_
  | refine Go.cons ?_
  | refine Go.tup ?_
  | refine Go.lst ?_
  | refine Go.lstR ?_
  | refine Go.tbl' ?_
  | refine Go.tblK' ?_
  | refine Go.ttr' ?_
  | refine Go.truB ?_
  | refine Go.truI ?_
  | refine Go.truN ?_
  | refine Go.and' ?_
  | refine Go.or' ?_
  | refine Go.not' ?_
  | refine Go.vOf' ?_
  | refine Go.vNot' ?_
  | refine Go.eIf' ?_
  | refine Go.ifT ?_
  | refine Go.ifF ?_
  | refine Go.ifN ?_
  | refine Go.add ?_
  | refine Go.sub' ?_
  | refine Go.lt ?_
  | refine Go.le ?_
  | refine Go.gt ?_
  | refine Go.ge ?_
  | refine Go.eqI ?_
  | refine Go.neI ?_
  | refine Go.is' ?_
  | refine Go.isNot' ?_
  | refine Go.chain ?_
  | refine Go.dB' ?_
  | refine Go.neg ?_
  | refine Go.neg' ?_
  | refine Go.abs' ?_
  | refine Go.lenT ?_
  | refine Go.lenL ?_
  | refine Go.max' ?_
  | refine Go.min' ?_
  | refine Go.intI ?_
  | refine Go.intB ?_
  | refine Go.tupL ?_
  | refine Go.tupT ?_
  | refine Go.isi ?_
  | refine Go.call ?_
  | refine Go.iVal' ?_
  | refine Go.iValT ?_
  | refine Go.iValL ?_
  | refine Go.r1 ?_
  | refine Go.r2 ?_
  | refine Go.star ?_
  | refine Go.l_cons ?_
  | refine Go.l_nil ?_
  | refine Go.enum' ?_
  | refine Go.rev' ?_
  | refine Go.zip' ?_
  | refine Go.wipe_nil ?_
  | refine Go.wipe_cons ?_
  | refine Go.iadd ?_
  | refine Go.sl ?_
  | refine Go.oN ?_
  | refine Go.oS ?_
  | refine Go.osK' ?_
  | refine Go.getL ?_
  | refine Go.lc ?_
  | refine Go.lcR ?_
  | refine Go.lg_nil ?_
  | refine Go.lg_cons ?_
  | refine Go.yes ?_
  | refine Go.for_nil ?_
  | refine Go.for_cons ?_
  | refine Go.revT ?_
  | refine Go.revL ?_
  | refine Go.zipT ?_
  | refine Go.zipL ?_
  | refine Go.tupK' rfl ?_
  | refine Go.lstK' rfl ?_
  | refine Go.callK' rfl rfl ?_
  | refine Go.lcL rfl ?_
  | refine Go.getLL' rfl ?_
  | refine Go.addT rfl ?_
  | (refine Go.gAsg ?_; first | refine Go.set0 ?_ | refine Go.set1 ?_ | refine Go.set2 ?_ | refine Go.set3 ?_ | refine Go.set4 ?_ | refine Go.set5 ?_ | refine Go.set6 ?_ | refine Go.set7 ?_ | refine Go.set8 ?_ | refine Go.set9 ?_ | refine Go.set10 ?_ | refine Go.set11 ?_ | refine Go.set12 ?_ | refine Go.set13 ?_ | refine Go.set14 ?_ | refine Go.set15 ?_ | refine Go.set16 ?_ | refine Go.set17 ?_ | refine Go.set18 ?_ | refine Go.set19 ?_ | refine Go.set20 ?_ | refine Go.set21 ?_ | refine Go.set22 ?_ | refine Go.set23 ?_ | refine Go.tp_cons ?_ | refine Go.tp_nil ?_)
  | (refine Go.gIxT ?_; first | refine Go.ixT0 ?_ | refine Go.ixT1 ?_ | refine Go.ixT2 ?_ | refine Go.ixT3 ?_ | refine Go.ixT4 ?_ | refine Go.ixT5 ?_ | refine Go.ixT6 ?_ | refine Go.ixT7 ?_)
  | (refine Go.gIxL ?_; first | refine Go.ixL0 ?_ | refine Go.ixL1 ?_ | refine Go.ixL2 ?_ | refine Go.ixL3 ?_ | refine Go.ixL4 ?_ | refine Go.ixL5 ?_ | refine Go.ixL6 ?_ | refine Go.ixL7 ?_)
  | (refine Go.gAug ?_; first | refine Go.aug0 ?_ | refine Go.aug1 ?_ | refine Go.aug2 ?_ | refine Go.aug3 ?_ | refine Go.aug4 ?_ | refine Go.aug5 ?_ | refine Go.aug6 ?_ | refine Go.aug7 ?_ | refine Go.aug8 ?_ | refine Go.aug9 ?_ | refine Go.aug10 ?_ | refine Go.aug11 ?_ | refine Go.aug12 ?_ | refine Go.aug13 ?_ | refine Go.aug14 ?_ | refine Go.aug15 ?_ | refine Go.aug16 ?_ | refine Go.aug17 ?_ | refine Go.aug18 ?_ | refine Go.aug19 ?_ | refine Go.aug20 ?_ | refine Go.aug21 ?_ | refine Go.aug22 ?_ | refine Go.aug23 ?_)
  | (refine Go.gStar ?_; first | refine Go.startup0 ?_ | refine Go.starlst0 ?_ | refine Go.startup1 ?_ | refine Go.starlst1 ?_ | refine Go.startup2 ?_ | refine Go.starlst2 ?_ | refine Go.startup3 ?_ | refine Go.starlst3 ?_ | refine Go.startup4 ?_ | refine Go.starlst4 ?_ | refine Go.startup_2 ?_ | refine Go.starlst_2 ?_ | refine Go.startup_3 ?_ | refine Go.starlst_3 ?_ | refine Go.startup_4 ?_ | refine Go.starlst_4 ?_)
  | refine Go.slfT1 ?_ | refine Go.sltT1 ?_ | refine Go.slfL1 ?_ | refine Go.sltL1 ?_ | refine Go.slfT2 ?_ | refine Go.sltT2 ?_ | refine Go.slfL2 ?_ | refine Go.sltL2 ?_ | refine Go.slfT3 ?_ | refine Go.sltT3 ?_ | refine Go.slfL3 ?_ | refine Go.sltL3 ?_ | refine Go.slfT4 ?_ | refine Go.sltT4 ?_ | refine Go.slfL4 ?_ | refine Go.sltL4 ?_
  | (refine Go.gUns ?_; first | refine Go.uns0 ?_ | refine Go.uns1 ?_ | refine Go.uns2 ?_ | refine Go.uns3 ?_ | refine Go.uns4 ?_ | refine Go.uns5 ?_ | refine Go.uns6 ?_ | refine Go.uns7 ?_ | refine Go.uns8 ?_ | refine Go.uns9 ?_ | refine Go.uns10 ?_ | refine Go.uns11 ?_ | refine Go.uns12 ?_ | refine Go.uns13 ?_ | refine Go.uns14 ?_ | refine Go.uns15 ?_ | refine Go.uns16 ?_ | refine Go.uns17 ?_ | refine Go.uns18 ?_ | refine Go.uns19 ?_ | refine Go.uns20 ?_ | refine Go.uns21 ?_ | refine Go.uns22 ?_ | refine Go.uns23 ?_)
  | refine Go.entup0 ?_ | refine Go.enlst0 ?_ | refine Go.entup1 ?_ | refine Go.enlst1 ?_ | refine Go.entup2 ?_ | refine Go.enlst2 ?_ | refine Go.entup3 ?_ | refine Go.enlst3 ?_ | refine Go.entup4 ?_ | refine Go.enlst4 ?_ | refine Go.entup5 ?_ | refine Go.enlst5 ?_ | refine Go.entup6 ?_ | refine Go.enlst6 ?_)))
local macro_rules | `(tactic| walk_at "bl1") => `(tactic| first | ((with_reducible refine Go.gEqS ?_); (first | refine Go.eqS (b := true) ⟨rfl, by decide +kernel⟩ ⟨rfl, by decide +kernel⟩ rfl ?_ | refine Go.eqS (b := false) ⟨rfl, by decide +kernel⟩ ⟨rfl, by decide +kernel⟩ rfl ?_)) | ((with_reducible refine Go.gNeS ?_); (first | refine Go.neS (b := true) ⟨rfl, by decide +kernel⟩ ⟨rfl, by decide +kernel⟩ rfl ?_ | refine Go.neS (b := false) ⟨rfl, by decide +kernel⟩ ⟨rfl, by decide +kernel⟩ rfl ?_)) | walk_at "bl0" | ((with_reducible refine Go.gAll ?_); (refine Go.allB (by rfl) ?_)) | ((with_reducible refine Go.gIxT ?_); (refine Go.ixT (by rfl) ?_)) | ((with_reducible refine Go.gIxL ?_); (refine Go.ixL (by rfl) ?_)))
local macro_rules | `(tactic| walk_at "bl") => `(tactic| (repeat walk_at "bl1"))
local macro_rules | `(tactic| walk_at "bl0") => `(tactic| (with_reducible (first | refine Go.zipS' ?_ | refine Go.zipR' ?_ | refine Go.seqT ?_ | refine Go.seqL ?_ | refine Go.zipST rfl ?_ | refine Go.zipSL rfl ?_ | refine Go.for_zc ?_ | refine Go.for_zn ?_ | refine Go.lg_zc ?_ | refine Go.lg_zn ?_)))
/-! ### what is grown anew -/
def Up (S S' : Sto) : Prop := ∀ b, S b ≠ none → S' b = S b
theorem Up.refl (S : Sto) : Up S S := fun _ _ => rfl
theorem Up.trans {S S1 S2 : Sto} (h : Up S S1) (k : Up S1 S2) : Up S S2 := fun b hb => by rw [k b (by rw [h b hb]; exact hb), h b hb]
theorem Up.sup {S S1 : Sto} {a : Addr} {ds : List D} (h : Up S S1) (n : S a = none) : Up S (sup S1 a ds) := fun b hb => by
  rw [sup_ne (fun z => hb (by rw [z]; exact n))]
  exact h b hb
theorem Bg.up {S S1 : Sto} {a : Addr} (h : Bg S a) (u : Up S S1) : Bg S1 a := by
  obtain ⟨c, m, e, r⟩ := h
  exact ⟨c, m, by rw [u a (by rw [e]; simp)]; exact e, r⟩
/-! ### fractions of any two sizes -/
theorem plus_mn {a b : Rat} {m n : Nat} {S : Sto} {Q : DK} {E : EK} (ha : sr m a) (hb : sr n b) (hn : m + n + 1 ≤ 8900) (k : Q (fr (a + b)) S) : m_plus [fr a, fr b] S Q E := by
  refine e_plus ?_
  unfold t_plus
  walk_at "bl"
  refine Go.mul (ha.n.cmul hb.d (by omega)) ?_
  walk_at "bl"
  refine Go.mul (hb.n.cmul ha.d (by omega)) ?_
  walk_at "bl"
  refine Go.mul (ha.d.cmul hb.d (by omega)) ?_
  walk_at "bl"
  have e1 := num_den a
  have e2 := num_den b
  refine frac_spec (n := m + n + 1) (Int.mul_ne_zero (den_ne a) (den_ne b)) ((ha.n.mul hb.d).add ((hb.n.mul ha.d).mono (by omega))) ((ha.d.mul hb.d).mono (by omega)) (Nat.le_trans hn (by decide)) ?_ k
  simp only [Rat.intCast_mul, Rat.intCast_add]
  grind
theorem times_mn {a b : Rat} {m n : Nat} {S : Sto} {Q : DK} {E : EK} (ha : sr m a) (hb : sr n b) (hn : m + n ≤ 8900) (k : Q (fr (a * b)) S) : m_times [fr a, fr b] S Q E := by
  refine e_times ?_
  unfold t_times
  walk_at "bl"
  refine Go.mul (ha.n.cmul hb.n (by omega)) ?_
  walk_at "bl"
  refine Go.mul (ha.d.cmul hb.d (by omega)) ?_
  walk_at "bl"
  have e1 := num_den a
  have e2 := num_den b
  refine frac_spec (n := m + n) (Int.mul_ne_zero (den_ne a) (den_ne b)) (ha.n.mul hb.n) (ha.d.mul hb.d) (Nat.le_trans hn (by decide)) ?_ k
  simp only [Rat.intCast_mul]
  grind
/-! ### how far round: quarters and the rest -/
end Lb

namespace Lr
open PySem PySem.Spec PyProof.Rows L2 Bl Lb
def t_field_sign : TSd := sSeq (sIf (tOrD (tbl (dTwo (dTwo (dCall m_sign_of 1 0 (fun ds _ => ds) (aCons (vr 0) (aNil)) aNil) (dCall m_sign_of 1 0 (fun ds _ => ds) (aCons (vr 1) (aNil)) aNil) fMul) (cn (.int 0)) fGe)) (tbl (dTwo (vr 2) (cn (.int 0)) fEq))) (sRet (eIf (tbl (dTwo (vr 2) (cn (.int 0)) fEq)) (dCall m_sign_of 1 0 (fun ds _ => ds) (aCons (vr 0) (aNil)) aNil) (dCall m_sign_of 1 0 (fun ds _ => ds) (aCons (dTwo (dCall m_sign_of 1 0 (fun ds _ => ds) (aCons (vr 0) (aNil)) aNil) (dCall m_sign_of 1 0 (fun ds _ => ds) (aCons (vr 1) (aNil)) aNil) fAdd) (aNil)) aNil))) (sNx)) (sRet (dTwo (dCall m_sign_of 1 0 (fun ds _ => ds) (aCons (vr 0) (aNil)) aNil) (dCall m_sign_of 1 0 (fun ds _ => ds) (aCons (dTwo (dTwo (vr 0) (vr 0) fMul) (dTwo (dTwo (vr 1) (vr 1) fMul) (vr 2) fMul) fSub) (aNil)) aNil) fMul))
def m_field_sign : TFd := fnD 3 3 t_field_sign
theorem e_field_sign {a0 a1 a2 : D} {S : Sto} {Q : DK} {E : EK} (k : t_field_sign [some a0, some a1, some a2] S ⟨fun _ S1 => Q .non S1, Q, fun _ _ => False, fun _ _ => False, fun x _ S1 => E x S1⟩) : m_field_sign [a0, a1, a2] S Q E := ⟨rfl, k⟩
def t_root_sign : TSd := sSeq (sAsg (vr 0) (.tp (.nm 1 :: .nm 2 :: .nm 3 :: []))) (sSeq (sAsg (dTwo (dTwo (vr 1) (cn (.int 1)) fIx) (dTwo (vr 3) (cn (.int 1)) fIx) fMul) (.nm 4)) (sRet (dCall m_field_sign 3 0 (fun ds _ => ds) (aCons (dTwo (dTwo (dTwo (vr 1) (cn (.int 0)) fIx) (dTwo (vr 3) (cn (.int 1)) fIx) fMul) (dTwo (vr 3) (cn (.int 1)) fIx) fMul) (aCons (dTwo (vr 2) (vr 4) fMul) (aCons (dTwo (dTwo (vr 3) (cn (.int 0)) fIx) (dTwo (vr 3) (cn (.int 1)) fIx) fMul) (aNil)))) aNil)))
def m_root_sign : TFd := fnD 1 5 t_root_sign
theorem e_root_sign {a0 : D} {S : Sto} {Q : DK} {E : EK} (k : t_root_sign [some a0, none, none, none, none] S ⟨fun _ S1 => Q .non S1, Q, fun _ _ => False, fun _ _ => False, fun x _ S1 => E x S1⟩) : m_root_sign [a0] S Q E := ⟨rfl, k⟩
def t_squared_less : TSd := sSeq (sAsg (vr 0) (.tp (.nm 2 :: .nm 3 :: .nm 4 :: []))) (sSeq (sAsg (dCall m_plus 2 0 (fun ds _ => ds) (aCons (dCall m_plus 2 0 (fun ds _ => ds) (aCons (dCall m_times 2 0 (fun ds _ => ds) (aCons (vr 2) (aCons (vr 2) (aNil))) aNil) (aCons (vr 4) (aNil))) aNil) (aCons (dTup (aCons (dTwo (cn (.int 0)) (dTwo (vr 1) (cn (.int 0)) fIx) fSub) (aCons (dTwo (vr 1) (cn (.int 1)) fIx) (aNil)))) (aNil))) aNil) (.nm 5)) (sSeq (sAsg (dCall m_times 2 0 (fun ds _ => ds) (aCons (vr 2) (aCons (dTup (aCons (dTwo (cn (.int 2)) (vr 3) fMul) (aCons (cn (.int 1)) (aNil)))) (aNil))) aNil) (.nm 6)) (sRet (dCall m_root 1 2 (fun a b => g_root_sign_square a b) (aCons (vr 5) (aNil)) (aCons (dCall m_sign_of 1 0 (fun ds _ => ds) (aCons (dTwo (vr 6) (cn (.int 0)) fIx) (aNil)) aNil) (aCons (dCall m_times 2 0 (fun ds _ => ds) (aCons (vr 4) (aCons (dCall m_times 2 0 (fun ds _ => ds) (aCons (vr 6) (aCons (vr 6) (aNil))) aNil) (aNil))) aNil) (aNil)))))))
def m_squared_less : TFd := fnD 2 7 t_squared_less
theorem e_squared_less {a0 a1 : D} {S : Sto} {Q : DK} {E : EK} (k : t_squared_less [some a0, some a1, none, none, none, none, none] S ⟨fun _ S1 => Q .non S1, Q, fun _ _ => False, fun _ _ => False, fun x _ S1 => E x S1⟩) : m_squared_less [a0, a1] S Q E := ⟨rfl, k⟩
def t_compare : TSd := sSeq (sAsg (vr 1) (.tp (.nm 2 :: .nm 3 :: .nm 4 :: []))) (sSeq (sAsg (dCall m_moved 2 0 (fun ds _ => ds) (aCons (vr 0) (aCons (dTup (aCons (dTwo (cn (.int 0)) (dTwo (vr 2) (cn (.int 0)) fIx) fSub) (aCons (dTwo (vr 2) (cn (.int 1)) fIx) (aNil)))) (aNil))) aNil) (.nm 5)) (sSeq (sAsg (dCall m_root_sign 1 0 (fun ds _ => ds) (aCons (vr 5) (aNil)) aNil) (.nm 6)) (sSeq (sIf (tbl (dTwo (vr 3) (cn (.int 0)) fEq)) (sRet (vr 6)) (sNx)) (sSeq (sIf (tbl (dTwo (dTwo (vr 6) (vr 3) fMul) (cn (.int 0)) fLe)) (sRet (eIf (tbl (dTwo (vr 6) (cn (.int 0)) fNe)) (vr 6) (dTwo (cn (.int 0)) (vr 3) fSub))) (sNx)) (sRet (dTwo (vr 3) (dCall m_root_sign 1 0 (fun ds _ => ds) (aCons (dCall m_squared_less 2 0 (fun ds _ => ds) (aCons (vr 5) (aCons (vr 4) (aNil))) aNil) (aNil)) aNil) fMul))))))
def m_compare : TFd := fnD 2 7 t_compare
theorem e_compare {a0 a1 : D} {S : Sto} {Q : DK} {E : EK} (k : t_compare [some a0, some a1, none, none, none, none, none] S ⟨fun _ S1 => Q .non S1, Q, fun _ _ => False, fun _ _ => False, fun x _ S1 => E x S1⟩) : m_compare [a0, a1] S Q E := ⟨rfl, k⟩
def t_l_bounds : TSd := sSeq (sAsg (vr 0) (.tp (.tp (.nm 2 :: .nm 3 :: []) :: .nm 4 :: .tp (.nm 5 :: .nm 6 :: []) :: []))) (sSeq (sAsg (dTwo (dCall m_l_root_of 1 0 (fun ds _ => ds) (aCons (dTwo (dTwo (dTwo (vr 5) (vr 6) fMul) (vr 1) fMul) (vr 1) fMul) (aNil)) aNil) (vr 6) fDiv) (.nm 7)) (sSeq (sAsg (dB bSort (aCons (dLst (aCons (dTwo (vr 4) (vr 7) fMul) (aCons (dTwo (vr 4) (dTwo (vr 7) (cn (.int 2)) fAdd) fMul) (aNil)))) (aNil))) (.nm 8)) (sRet (dTup (aCons (dTwo (dTwo (dTwo (dTwo (vr 2) (vr 1) fMul) (vr 3) fDiv) (dTwo (vr 8) (cn (.int 0)) fIx) fAdd) (cn (.int 1)) fSub) (aCons (dTwo (dTwo (dTwo (dTwo (vr 2) (vr 1) fMul) (vr 3) fDiv) (dTwo (vr 8) (cn (.int 1)) fIx) fAdd) (cn (.int 1)) fAdd) (aNil)))))))
def m_l_bounds : TFd := fnD 2 9 t_l_bounds
theorem e_l_bounds {a0 a1 : D} {S : Sto} {Q : DK} {E : EK} (k : t_l_bounds [some a0, some a1, none, none, none, none, none, none, none] S ⟨fun _ S1 => Q .non S1, Q, fun _ _ => False, fun _ _ => False, fun x _ S1 => E x S1⟩) : m_l_bounds [a0, a1] S Q E := ⟨rfl, k⟩
def t_l_tens : TSd := sSeq (sAsg (cn (.int 1)) (.nm 1)) (sSeq (sFor (iR1 (aCons (vr 0) (aNil))) (.nm 2) (sAsg (dTwo (vr 1) (cn (.int 10)) fMul) (.nm 1))) (sRet (vr 1)))
def m_l_tens : TFd := fnD 1 3 t_l_tens
theorem e_l_tens {a0 : D} {S : Sto} {Q : DK} {E : EK} (k : t_l_tens [some a0, none, none] S ⟨fun _ S1 => Q .non S1, Q, fun _ _ => False, fun _ _ => False, fun x _ S1 => E x S1⟩) : m_l_tens [a0] S Q E := ⟨rfl, k⟩
def t_floor_of : TSd := sSeq (sAsg (vr 0) (.tp (.nm 1 :: .nm 2 :: .nm 3 :: []))) (sSeq (sAsg (dTwo (dTwo (dTwo (vr 1) (cn (.int 0)) fIx) (dTwo (vr 1) (cn (.int 1)) fIx) fDiv) (dTwo (vr 2) (dCall m_whole_root 1 0 (fun ds _ => ds) (aCons (dTwo (dTwo (vr 3) (cn (.int 0)) fIx) (dTwo (vr 3) (cn (.int 1)) fIx) fDiv) (aNil)) aNil) fMul) fAdd) (.nm 4)) (sSeq (sWhile (tbl (dTwo (dCall m_compare 2 0 (fun ds _ => ds) (aCons (vr 0) (aCons (dTup (aCons (dTup (aCons (vr 4) (aCons (cn (.int 1)) (aNil)))) (aCons (cn (.int 0)) (aCons (cn k_ZERO) (aNil))))) (aNil))) aNil) (cn (.int 0)) fLt)) (sAug 4 (cn (.int 1)) fSub)) (sSeq (sWhile (tbl (dTwo (dCall m_compare 2 0 (fun ds _ => ds) (aCons (vr 0) (aCons (dTup (aCons (dTup (aCons (dTwo (vr 4) (cn (.int 1)) fAdd) (aCons (cn (.int 1)) (aNil)))) (aCons (cn (.int 0)) (aCons (cn k_ZERO) (aNil))))) (aNil))) aNil) (cn (.int 0)) fGe)) (sAug 4 (cn (.int 1)) fIadd)) (sRet (vr 4)))))
def m_floor_of : TFd := fnD 1 5 t_floor_of
theorem e_floor_of {a0 : D} {S : Sto} {Q : DK} {E : EK} (k : t_floor_of [some a0, none, none, none, none] S ⟨fun _ S1 => Q .non S1, Q, fun _ _ => False, fun _ _ => False, fun x _ S1 => E x S1⟩) : m_floor_of [a0] S Q E := ⟨rfl, k⟩
def t_between : TSd := sSeq (sAsg (eIf (tbl (dTwo (dCall m_compare 2 0 (fun ds _ => ds) (aCons (vr 0) (aCons (vr 1) (aNil))) aNil) (cn (.int 0)) fLt)) (dTup (aCons (vr 0) (aCons (vr 1) (aNil)))) (dTup (aCons (vr 1) (aCons (vr 0) (aNil))))) (.tp (.nm 2 :: .nm 3 :: []))) (sSeq (sAsg (cn (.int 1)) (.nm 4)) (sWhile (ttr (cn (.bl true))) (sSeq (sAsg (dTwo (dCall m_floor_of 1 0 (fun ds _ => ds) (aCons (dCall m_scaled 2 0 (fun ds _ => ds) (aCons (vr 2) (aCons (dTup (aCons (vr 4) (aCons (cn (.int 1)) (aNil)))) (aNil))) aNil) (aNil)) aNil) (cn (.int 1)) fAdd) (.nm 5)) (sSeq (sIf (tbl (dTwo (dCall m_compare 2 0 (fun ds _ => ds) (aCons (dTup (aCons (dTup (aCons (vr 5) (aCons (vr 4) (aNil)))) (aCons (cn (.int 0)) (aCons (cn k_ZERO) (aNil))))) (aCons (vr 3) (aNil))) aNil) (cn (.int 0)) fLt)) (sRet (dCall m_frac 2 0 (fun ds _ => ds ++ []) (aCons (vr 5) (aCons (vr 4) (aNil))) aNil)) (sNx)) (sAug 4 (cn (.int 2)) fMul)))))
def m_between : TFd := fnD 2 6 t_between
theorem e_between {a0 a1 : D} {S : Sto} {Q : DK} {E : EK} (k : t_between [some a0, some a1, none, none, none, none] S ⟨fun _ S1 => Q .non S1, Q, fun _ _ => False, fun _ _ => False, fun x _ S1 => E x S1⟩) : m_between [a0, a1] S Q E := ⟨rfl, k⟩
end Lr

namespace Rl
/-! ### real numbers: rows of fractions that draw together -/
structure Sq where
  f : Nat → Rat
  c : ∀ e : Rat, 0 < e → ∃ N, ∀ m n, N ≤ m → N ≤ n → f m - f n < e
def Eqv (a b : Sq) : Prop := ∀ e : Rat, 0 < e → ∃ N, ∀ n, N ≤ n → a.f n - b.f n < e ∧ b.f n - a.f n < e
theorem half {e : Rat} (h : 0 < e) : ∃ d : Rat, 0 < d ∧ d + d = e := ⟨e / 2, by grind, by grind⟩
theorem Eqv.refl (a : Sq) : Eqv a a := fun e h => ⟨0, fun n _ => ⟨by grind, by grind⟩⟩
theorem Eqv.symm {a b : Sq} (h : Eqv a b) : Eqv b a := fun e he => by
  obtain ⟨N, hN⟩ := h e he
  exact ⟨N, fun n hn => ⟨(hN n hn).2, (hN n hn).1⟩⟩
theorem Eqv.trans {a b c : Sq} (h : Eqv a b) (k : Eqv b c) : Eqv a c := fun e he => by
  obtain ⟨d, d0, dd⟩ := half he
  obtain ⟨N, hN⟩ := h d d0
  obtain ⟨M, hM⟩ := k d d0
  refine ⟨max N M, fun n hn => ?_⟩
  have h1 := hN n (by omega)
  have h2 := hM n (by omega)
  exact ⟨by grind, by grind⟩
instance sqd : Setoid Sq := ⟨Eqv, ⟨Eqv.refl, Eqv.symm, Eqv.trans⟩⟩
def Real : Type := Quotient sqd
theorem bound (a : Sq) : ∃ B : Rat, 0 < B ∧ ∃ N, ∀ n, N ≤ n → -B < a.f n ∧ a.f n < B := by
  obtain ⟨N, hN⟩ := a.c 1 (by decide)
  have key : ∀ x y : Rat, x - y < 1 → y - x < 1 → -(y * y + 3) < x ∧ x < y * y + 3 := fun x y h1 h2 => by
    have s1 := Lb.sq_nonneg (y - 1)
    have s2 := Lb.sq_nonneg (y + 1)
    exact ⟨by grind, by grind⟩
  refine ⟨a.f N * a.f N + 3, ?_, N, fun n hn => key _ _ (hN n N hn (Nat.le_refl _)) (hN N n (Nat.le_refl _) hn)⟩
  have := Lb.sq_nonneg (a.f N)
  grind
theorem mul_lt {x y B d : Rat} (h1 : -B < x) (h2 : x < B) (h3 : -d < y) (h4 : y < d) : x * y < B * d := by
  have a := Rat.mul_pos (show 0 < B - x by grind) (show 0 < d + y by grind)
  have b := Rat.mul_pos (show 0 < B + x by grind) (show 0 < d - y by grind)
  grind
theorem part {B e : Rat} (hB : 0 < B) (he : 0 < e) : ∃ d : Rat, 0 < d ∧ B * d = e := ⟨e / B, by
  rw [Rat.div_def]
  exact Rat.mul_pos he (Rat.inv_pos.mpr hB), by
  have : B ≠ 0 := fun z => by rw [z] at hB; exact absurd hB (by decide)
  rw [Rat.mul_comm]
  exact Rat.div_mul_cancel this⟩
def cst (q : Rat) : Sq := ⟨fun _ => q, fun e he => ⟨0, fun m n _ _ => by grind⟩⟩
def addS (a b : Sq) : Sq := ⟨fun n => a.f n + b.f n, fun e he => by
  obtain ⟨d, d0, dd⟩ := half he
  obtain ⟨N, hN⟩ := a.c d d0
  obtain ⟨M, hM⟩ := b.c d d0
  refine ⟨max N M, fun m n hm hn => ?_⟩
  have h1 := hN m n (by omega) (by omega)
  have h2 := hM m n (by omega) (by omega)
  grind⟩
def negS (a : Sq) : Sq := ⟨fun n => - a.f n, fun e he => by
  obtain ⟨N, hN⟩ := a.c e he
  refine ⟨N, fun m n hm hn => ?_⟩
  have := hN n m hn hm
  grind⟩
def mulS (a b : Sq) : Sq := ⟨fun n => a.f n * b.f n, fun e he => by
  obtain ⟨B, B0, N1, hB⟩ := bound a
  obtain ⟨C, C0, N2, hC⟩ := bound b
  obtain ⟨d, d0, dd⟩ := half he
  obtain ⟨u, u0, eu⟩ := part B0 d0
  obtain ⟨v, v0, ew⟩ := part C0 d0
  obtain ⟨N3, h3⟩ := b.c u u0
  obtain ⟨N4, h4⟩ := a.c v v0
  refine ⟨max (max N1 N2) (max N3 N4), fun m n hm hn => ?_⟩
  have x1 := hB m (by omega)
  have x2 := hC n (by omega)
  have y1 := h3 m n (by omega) (by omega)
  have y2 := h3 n m (by omega) (by omega)
  have z1 := h4 m n (by omega) (by omega)
  have z2 := h4 n m (by omega) (by omega)
  have p := mul_lt (x := a.f m) (y := b.f m - b.f n) x1.1 x1.2 (by grind) y1
  have q := mul_lt (x := b.f n) (y := a.f m - a.f n) x2.1 x2.2 (by grind) z1
  grind⟩
theorem add_eqv {a a' b b' : Sq} (h : Eqv a a') (k : Eqv b b') : Eqv (addS a b) (addS a' b') := fun e he => by
  obtain ⟨d, d0, dd⟩ := half he
  obtain ⟨N, hN⟩ := h d d0
  obtain ⟨M, hM⟩ := k d d0
  refine ⟨max N M, fun n hn => ?_⟩
  have h1 := hN n (by omega)
  have h2 := hM n (by omega)
  exact ⟨by show a.f n + b.f n - (a'.f n + b'.f n) < e; grind, by show a'.f n + b'.f n - (a.f n + b.f n) < e; grind⟩
theorem neg_eqv {a a' : Sq} (h : Eqv a a') : Eqv (negS a) (negS a') := fun e he => by
  obtain ⟨N, hN⟩ := h e he
  refine ⟨N, fun n hn => ?_⟩
  have h1 := hN n hn
  exact ⟨by show - a.f n - - a'.f n < e; grind, by show - a'.f n - - a.f n < e; grind⟩
theorem mul_eqv {a a' b b' : Sq} (h : Eqv a a') (k : Eqv b b') : Eqv (mulS a b) (mulS a' b') := fun e he => by
  obtain ⟨B, B0, N1, hB⟩ := bound a
  obtain ⟨C, C0, N2, hC⟩ := bound b'
  obtain ⟨d, d0, dd⟩ := half he
  obtain ⟨u, u0, eu⟩ := part B0 d0
  obtain ⟨v, v0, ew⟩ := part C0 d0
  obtain ⟨N3, h3⟩ := k u u0
  obtain ⟨N4, h4⟩ := h v v0
  refine ⟨max (max N1 N2) (max N3 N4), fun n hn => ?_⟩
  have x1 := hB n (by omega)
  have x2 := hC n (by omega)
  have y := h3 n (by omega)
  have z := h4 n (by omega)
  have p := mul_lt (x := a.f n) (y := b.f n - b'.f n) x1.1 x1.2 (by grind) y.1
  have p' := mul_lt (x := a.f n) (y := b'.f n - b.f n) x1.1 x1.2 (by grind) y.2
  have q := mul_lt (x := b'.f n) (y := a.f n - a'.f n) x2.1 x2.2 (by grind) z.1
  have q' := mul_lt (x := b'.f n) (y := a'.f n - a.f n) x2.1 x2.2 (by grind) z.2
  exact ⟨by show a.f n * b.f n - a'.f n * b'.f n < e; grind, by show a'.f n * b'.f n - a.f n * b.f n < e; grind⟩
namespace Real
def mk (a : Sq) : Real := Quotient.mk sqd a
def of (q : Rat) : Real := mk (cst q)
def add : Real → Real → Real := Quotient.lift₂ (fun a b => mk (addS a b)) fun _ _ _ _ h k => Quotient.sound (add_eqv h k)
def mul : Real → Real → Real := Quotient.lift₂ (fun a b => mk (mulS a b)) fun _ _ _ _ h k => Quotient.sound (mul_eqv h k)
def neg : Real → Real := Quotient.lift (fun a => mk (negS a)) fun _ _ h => Quotient.sound (neg_eqv h)
def pw (a : Real) : Nat → Real
  | 0 => of 1
  | n + 1 => mul (pw a n) a
theorem ext {a b : Sq} (h : ∀ n, a.f n = b.f n) : mk a = mk b := Quotient.sound (s := sqd) fun e he => ⟨0, fun n _ => by rw [h n]; exact ⟨by grind, by grind⟩⟩
instance : Add Real := ⟨add⟩
instance : Mul Real := ⟨mul⟩
instance : Neg Real := ⟨neg⟩
instance : Sub Real := ⟨fun a b => add a (neg b)⟩
instance : NatCast Real := ⟨fun n => of (n : Rat)⟩
instance : IntCast Real := ⟨fun n => of (n : Rat)⟩
instance (n : Nat) : OfNat Real n := ⟨of (n : Rat)⟩
instance : SMul Nat Real := ⟨fun n a => mul (of (n : Rat)) a⟩
instance : SMul Int Real := ⟨fun n a => mul (of (n : Rat)) a⟩
instance : HPow Real Nat Real := ⟨pw⟩
theorem of_add (a b : Rat) : of (a + b) = of a + of b := rfl
theorem of_mul (a b : Rat) : of (a * b) = of a * of b := rfl
theorem of_neg (a : Rat) : of (-a) = - of a := rfl
instance semi : Lean.Grind.Semiring Real where
  natCast := inferInstance
  ofNat := inferInstance
  nsmul := inferInstance
  npow := inferInstance
  add_zero a := Quotient.inductionOn a fun a => ext fun n => by show a.f n + ((0 : Nat) : Rat) = a.f n; grind
  add_comm a b := Quotient.inductionOn₂ a b fun a b => ext fun n => by show a.f n + b.f n = b.f n + a.f n; grind
  add_assoc a b c := Quotient.inductionOn₃ a b c fun a b c => ext fun n => by show a.f n + b.f n + c.f n = a.f n + (b.f n + c.f n); grind
  mul_assoc a b c := Quotient.inductionOn₃ a b c fun a b c => ext fun n => by show a.f n * b.f n * c.f n = a.f n * (b.f n * c.f n); grind
  mul_one a := Quotient.inductionOn a fun a => ext fun n => by show a.f n * ((1 : Nat) : Rat) = a.f n; grind
  one_mul a := Quotient.inductionOn a fun a => ext fun n => by show ((1 : Nat) : Rat) * a.f n = a.f n; grind
  left_distrib a b c := Quotient.inductionOn₃ a b c fun a b c => ext fun n => by show a.f n * (b.f n + c.f n) = a.f n * b.f n + a.f n * c.f n; grind
  right_distrib a b c := Quotient.inductionOn₃ a b c fun a b c => ext fun n => by show (a.f n + b.f n) * c.f n = a.f n * c.f n + b.f n * c.f n; grind
  zero_mul a := Quotient.inductionOn a fun a => ext fun n => by show ((0 : Nat) : Rat) * a.f n = ((0 : Nat) : Rat); grind
  mul_zero a := Quotient.inductionOn a fun a => ext fun n => by show a.f n * ((0 : Nat) : Rat) = ((0 : Nat) : Rat); grind
  pow_zero a := rfl
  pow_succ a n := rfl
  ofNat_succ n := ext fun _ => by show ((n + 1 : Nat) : Rat) = (n : Rat) + ((1 : Nat) : Rat); rw [Rat.natCast_add]
  ofNat_eq_natCast n := rfl
  nsmul_eq_natCast_mul n a := rfl
instance ring : Lean.Grind.Ring Real where
  toSemiring := semi
  intCast := inferInstance
  zsmul := inferInstance
  neg_add_cancel a := Quotient.inductionOn a fun a => ext fun n => by show - a.f n + a.f n = ((0 : Nat) : Rat); grind
  sub_eq_add_neg a b := rfl
  neg_zsmul i a := Quotient.inductionOn a fun a => ext fun n => by show ((-i : Int) : Rat) * a.f n = -((i : Rat) * a.f n); rw [Rat.intCast_neg]; grind
  zsmul_natCast_eq_nsmul n a := Quotient.inductionOn a fun a => ext fun _ => rfl
  intCast_ofNat n := rfl
  intCast_neg i := ext fun _ => by show ((-i : Int) : Rat) = -(i : Rat); rw [Rat.intCast_neg]
instance comm : Lean.Grind.CommRing Real where
  toRing := ring
  mul_comm a b := Quotient.inductionOn₂ a b fun a b => ext fun n => by show a.f n * b.f n = b.f n * a.f n; grind
end Real
end Rl

namespace Rl
/-! ### their order -/
def PosS (a : Sq) : Prop := ∃ e : Rat, 0 < e ∧ ∃ N, ∀ n, N ≤ n → e < a.f n
theorem pos_eqv {a b : Sq} (h : Eqv a b) (p : PosS a) : PosS b := by
  obtain ⟨e, e0, N, hN⟩ := p
  obtain ⟨d, d0, dd⟩ := half e0
  obtain ⟨M, hM⟩ := h d d0
  refine ⟨d, d0, max N M, fun n hn => ?_⟩
  have h1 := hN n (by omega)
  have h2 := (hM n (by omega)).1
  grind
theorem tri (a : Sq) : PosS a ∨ Eqv a (cst 0) ∨ PosS (negS a) := by
  by_cases h : Eqv a (cst 0)
  · exact .inr (.inl h)
  · have : ∃ e : Rat, 0 < e ∧ ∀ N, ∃ n, N ≤ n ∧ ¬ (a.f n - 0 < e ∧ 0 - a.f n < e) := by
      false_or_by_contra
      rename_i hh
      refine h fun e he => ?_
      false_or_by_contra
      rename_i h2
      refine hh ⟨e, he, fun N => ?_⟩
      false_or_by_contra
      rename_i h3
      refine h2 ⟨N, fun n hn => ?_⟩
      false_or_by_contra
      rename_i h4
      exact h3 ⟨n, hn, h4⟩
    obtain ⟨e, e0, h1⟩ := this
    obtain ⟨d, d0, dd⟩ := half e0
    obtain ⟨N, hN⟩ := a.c d d0
    obtain ⟨n, hn, h2⟩ := h1 N
    by_cases hp : 0 < a.f n
    · left
      refine ⟨d, d0, N, fun m hm => ?_⟩
      have h3 := hN n m hn hm
      have h4 : e ≤ a.f n := by
        false_or_by_contra
        rename_i h5
        exact h2 ⟨by grind, by grind⟩
      grind
    · right; right
      refine ⟨d, d0, N, fun m hm => ?_⟩
      have h3 := hN m n hm hn
      have h4 : e ≤ - a.f n := by
        false_or_by_contra
        rename_i h5
        exact h2 ⟨by grind, by grind⟩
      show d < - a.f m
      grind
theorem pos_add {a b : Sq} (h : PosS a) (k : PosS b) : PosS (addS a b) := by
  obtain ⟨e, e0, N, hN⟩ := h
  obtain ⟨d, d0, M, hM⟩ := k
  refine ⟨e, e0, max N M, fun n hn => ?_⟩
  have h1 := hN n (by omega)
  have h2 := hM n (by omega)
  show e < a.f n + b.f n
  grind
theorem pos_mul {a b : Sq} (h : PosS a) (k : PosS b) : PosS (mulS a b) := by
  obtain ⟨e, e0, N, hN⟩ := h
  obtain ⟨d, d0, M, hM⟩ := k
  refine ⟨e * d, Rat.mul_pos e0 d0, max N M, fun n hn => ?_⟩
  have h1 := hN n (by omega)
  have h2 := hM n (by omega)
  show e * d < a.f n * b.f n
  have p := Rat.mul_pos (show 0 < a.f n - e by grind) (show 0 < b.f n by grind)
  have q := Rat.mul_pos e0 (show 0 < b.f n - d by grind)
  grind
theorem not_both {a : Sq} (h : PosS a) (k : PosS (negS a)) : False := by
  obtain ⟨e, e0, N, hN⟩ := h
  obtain ⟨d, d0, M, hM⟩ := k
  have h1 := hN (max N M) (by omega)
  have h2 : d < - a.f (max N M) := hM (max N M) (by omega)
  grind
namespace Real
def Pos : Real → Prop := Quotient.lift PosS fun _ _ h => propext ⟨pos_eqv h, pos_eqv h.symm⟩
theorem tri (a : Real) : Pos a ∨ a = 0 ∨ Pos (-a) := Quotient.inductionOn a fun a => by
  rcases Rl.tri a with h | h | h
  · exact .inl h
  · exact .inr (.inl (Quotient.sound (s := sqd) (by
      have e : cst 0 = cst ((0 : Nat) : Rat) := rfl
      rw [e] at h
      exact h)))
  · exact .inr (.inr h)
theorem pos_add {a b : Real} : Pos a → Pos b → Pos (a + b) := Quotient.inductionOn₂ a b fun _ _ => Rl.pos_add
theorem pos_mul {a b : Real} : Pos a → Pos b → Pos (a * b) := Quotient.inductionOn₂ a b fun _ _ => Rl.pos_mul
theorem not_both {a : Real} : Pos a → Pos (-a) → False := Quotient.inductionOn a fun _ => Rl.not_both
theorem not_pos0 : ¬ Pos 0 := fun h => not_both h (by
  have : (-0 : Real) = 0 := by grind
  rw [this]; exact h)
theorem pos_of {q : Rat} : Pos (of q) ↔ 0 < q := ⟨fun h => by
  obtain ⟨e, e0, N, hN⟩ := h
  have : e < q := hN N (Nat.le_refl _)
  grind, fun h => by
  obtain ⟨d, d0, dd⟩ := half h
  exact ⟨d, d0, 0, fun n _ => by show d < q; grind⟩⟩
instance : LT Real := ⟨fun a b => Pos (b - a)⟩
instance : LE Real := ⟨fun a b => ¬ Pos (a - b)⟩
theorem lt_def {a b : Real} : a < b ↔ Pos (b - a) := Iff.rfl
theorem le_def {a b : Real} : a ≤ b ↔ ¬ Pos (a - b) := Iff.rfl
theorem not_lt' {a b : Real} : ¬ a < b ↔ b ≤ a := Iff.rfl
theorem tri' (a b : Real) : a < b ∨ a = b ∨ b < a := by
  rcases tri (b - a) with h | h | h
  · exact .inl h
  · exact .inr (.inl (by grind))
  · refine .inr (.inr ?_)
    rw [lt_def, show a - b = -(b - a) by grind]
    exact h
theorem asym {a b : Real} (h : a < b) (k : b < a) : False := by
  refine not_both h ?_
  rw [show -(b - a) = a - b by grind]
  exact k
theorem tr {a b c : Real} (h : a < b) (k : b < c) : a < c := by
  rw [lt_def, show c - a = (b - a) + (c - b) by grind]
  exact pos_add h k
instance lin : Std.IsLinearOrder Real where
  le_refl a := by
    rw [le_def, show a - a = 0 by grind]
    exact not_pos0
  le_trans a b c h k := fun (x : c < a) => by
    rcases tri' a b with y | y | y
    · rcases tri' b c with z | z | z
      · exact asym (tr y z) x
      · subst z; exact asym y x
      · exact k z
    · subst y; exact k x
    · exact h y
  le_antisymm a b h k := by
    rcases tri' a b with y | y | y
    · exact absurd y k
    · exact y
    · exact absurd y h
  le_total a b := by
    rcases tri' a b with y | y | y
    · exact .inl fun z => asym y z
    · subst y; exact .inl fun z => asym z z
    · exact .inr fun z => asym y z
instance : Std.LawfulOrderLT Real where
  lt_iff a b := ⟨fun h => ⟨fun z => asym h z, fun z => z h⟩, fun h => by
    rcases tri' a b with y | y | y
    · exact y
    · subst y; exact absurd (fun z => asym z z) h.2
    · exact absurd y h.1⟩
instance : Lean.Grind.OrderedRing Real where
  add_le_left_iff {a b} c := by
    rw [le_def, le_def, show a + c - (b + c) = a - b by grind]
  zero_lt_one := by
    rw [lt_def, show (1 : Real) - 0 = 1 by grind]
    exact (pos_of (q := ((1 : Nat) : Rat))).mpr (by decide)
  mul_lt_mul_of_pos_left {a b c} h k := by
    rw [lt_def, show c * b - c * a = (c - 0) * (b - a) by grind]
    exact pos_mul k h
  mul_lt_mul_of_pos_right {a b c} h k := by
    rw [lt_def, show b * c - a * c = (c - 0) * (b - a) by grind]
    exact pos_mul k h
theorem of_sub (a b : Rat) : of (a - b) = of a - of b := by rw [Rat.sub_eq_add_neg, of_add, of_neg]; grind
theorem of_lt {a b : Rat} : of a < of b ↔ a < b := by
  rw [lt_def, ← of_sub, pos_of]
  exact ⟨fun h => by grind, fun h => by grind⟩
theorem of_le {a b : Rat} : of a ≤ of b ↔ a ≤ b := by
  rw [← not_lt', of_lt, Rat.not_lt]
theorem of_inj {a b : Rat} : of a = of b ↔ a = b := ⟨fun h => Rat.le_antisymm (of_le.mp (by grind)) (of_le.mp (by grind)), fun h => by rw [h]⟩
theorem of_zero : of 0 = 0 := rfl
theorem of_one : of 1 = 1 := rfl
theorem mul_pos {a b : Real} (h : 0 < a) (k : 0 < b) : 0 < a * b := by
  rw [lt_def, show a * b - 0 = (a - 0) * (b - 0) by grind]
  exact pos_mul h k
theorem mul_zero' {a b : Real} (h : a * b = 0) : a = 0 ∨ b = 0 := by
  rcases tri' a 0 with x | x | x
  · rcases tri' b 0 with y | y | y
    · have := mul_pos (show 0 < -a by grind) (show 0 < -b by grind); grind
    · exact .inr y
    · have := mul_pos (show 0 < -a by grind) y; grind
  · exact .inl x
  · rcases tri' b 0 with y | y | y
    · have := mul_pos x (show 0 < -b by grind); grind
    · exact .inr y
    · have := mul_pos x y; grind
theorem sq_inj {a b : Real} (ha : 0 ≤ a) (hb : 0 ≤ b) (h : a * a = b * b) : a = b := by
  rcases mul_zero' (show (a - b) * (a + b) = 0 by grind) with x | x <;> grind
end Real
end Rl

namespace Rl
open Lb
theorem rat_lt_or_le (a b : Rat) : a < b ∨ b ≤ a := by
  by_cases h : a < b
  · exact .inl h
  · exact .inr (Rat.not_lt.mp h)
/-! ### square roots of fractions -/
def dn (n : Nat) : Rat := 1 / ((n + 1 : Nat) : Rat)
theorem succ_pos (n : Nat) : (0 : Rat) < ((n + 1 : Nat) : Rat) := by
  have : ((0 : Int) : Rat) < ((n + 1 : Nat) : Rat) := Rat.intCast_lt_intCast.mpr (show (0 : Int) < ((n + 1 : Nat) : Int) by omega)
  exact this
theorem dn_mul (n : Nat) : dn n * ((n + 1 : Nat) : Rat) = 1 := Rat.div_mul_cancel (fun z => by have := succ_pos n; rw [z] at this; exact absurd this (by decide))
theorem pos_left {a b : Rat} (hb : 0 < b) (h : 0 < a * b) : 0 < a := by
  rcases rat_lt_or_le 0 a with z | z
  · exact z
  · have := Rat.mul_nonneg (show 0 ≤ -a by grind) (Rat.le_of_lt hb)
    grind
theorem dn_pos (n : Nat) : 0 < dn n := pos_left (succ_pos n) (by rw [dn_mul]; decide)
theorem dn_le {N n : Nat} (h : N ≤ n) : dn n ≤ dn N := by
  have h1 := dn_mul N
  have h2 := dn_mul n
  have hc : ((N + 1 : Nat) : Rat) ≤ ((n + 1 : Nat) : Rat) := Rat.natCast_le_natCast.mpr (by omega)
  have p := Rat.mul_nonneg (Rat.le_of_lt (dn_pos n)) (show 0 ≤ ((n + 1 : Nat) : Rat) - ((N + 1 : Nat) : Rat) by grind)
  have q := succ_pos N
  have : 0 ≤ (dn N - dn n) * ((N + 1 : Nat) : Rat) := by grind
  rcases rat_lt_or_le (dn N) (dn n) with z | z
  · have := Rat.mul_pos (show 0 < dn n - dn N by grind) q
    grind
  · exact z
theorem arch {e : Rat} (h : 0 < e) : ∃ N, dn N < e := by
  refine ⟨e.den, ?_⟩
  have h1 := dn_mul e.den
  have hp := succ_pos e.den
  have en := num_den e
  have n1 : (1 : Rat) ≤ ((e.num : Int) : Rat) := by
    have a : 0 ≤ e.num := Rat.num_nonneg.mpr (Rat.le_of_lt h)
    have b : e.num ≠ 0 := fun z => by have := Rat.num_eq_zero.mp z; rw [this] at h; exact absurd h (by decide)
    have : ((1 : Int) : Rat) ≤ ((e.num : Int) : Rat) := Rat.intCast_le_intCast.mpr (by omega)
    exact this
  have ec : ((e.den + 1 : Nat) : Rat) = ((e.den : Int) : Rat) + 1 := by rw [Rat.natCast_add]; rfl
  rw [ec] at h1 hp
  have := pos_left hp (a := e - dn e.den) (by grind)
  grind
theorem sq_le {x y : Rat} (hx : 0 ≤ x) (hy : 0 ≤ y) (h : x * x ≤ y * y) : x ≤ y := by
  rcases rat_lt_or_le y x with z | z
  · have := Rat.mul_pos (show 0 < x - y by grind) (show 0 < x + y by grind)
    grind
  · exact z
theorem approx {q : Rat} (h : 0 ≤ q) (n : Nat) : ∃ r : Rat, 0 ≤ r ∧ r * r ≤ q ∧ q < (r + dn n) * (r + dn n) := by
  obtain ⟨h1, h2⟩ := isq_spec (q.num.toNat * q.den * ((n + 1) * (n + 1)))
  generalize isq (q.num.toNat * q.den * ((n + 1) * (n + 1))) = m at h1 h2
  have hn := Rat.num_nonneg.mpr h
  have en := num_den q
  have e1 : ((q.num.toNat : Nat) : Rat) = ((q.num : Int) : Rat) := by
    have : ((q.num.toNat : Nat) : Int) = q.num := by omega
    rw [← this]; rfl
  have b0 : (0 : Rat) < ((q.den : Nat) : Rat) := Rat.natCast_pos.mpr q.den_pos
  have b1 : (1 : Rat) ≤ ((q.den : Nat) : Rat) := by
    have : ((1 : Nat) : Rat) ≤ ((q.den : Nat) : Rat) := Rat.natCast_le_natCast.mpr q.den_pos
    exact this
  have k0 := succ_pos n
  have en' : q * ((q.den : Nat) : Rat) = ((q.num : Int) : Rat) := en
  have H1 : ((m : Nat) : Rat) * m ≤ ((q.num : Int) : Rat) * ((q.den : Nat) : Rat) * (((n + 1 : Nat) : Rat) * ((n + 1 : Nat) : Rat)) := by
    rw [← e1, ← Rat.natCast_mul, ← Rat.natCast_mul, ← Rat.natCast_mul, ← Rat.natCast_mul]
    exact Rat.natCast_le_natCast.mpr h1
  have H2 : ((q.num : Int) : Rat) * ((q.den : Nat) : Rat) * (((n + 1 : Nat) : Rat) * ((n + 1 : Nat) : Rat)) < (((m : Nat) : Rat) + 1) * (((m : Nat) : Rat) + 1) := by
    have ec : ((m : Nat) : Rat) + 1 = ((m + 1 : Nat) : Rat) := by rw [Rat.natCast_add]; rfl
    rw [ec, ← e1, ← Rat.natCast_mul, ← Rat.natCast_mul, ← Rat.natCast_mul, ← Rat.natCast_mul]
    exact Rat.natCast_lt_natCast.mpr h2
  have m0 : (0 : Rat) ≤ ((m : Nat) : Rat) := Rat.natCast_nonneg
  have dm := dn_mul n
  have dp := dn_pos n
  generalize ((m : Nat) : Rat) = M at *
  generalize ((n + 1 : Nat) : Rat) = K at *
  generalize ((q.den : Nat) : Rat) = B at *
  generalize ((q.num : Int) : Rat) = A at *
  generalize dn n = d at *
  have D0 : 0 < B * K := Rat.mul_pos b0 k0
  have rD : M / (B * K) * (B * K) = M := Rat.div_mul_cancel (fun z => by rw [z] at D0; exact absurd D0 (by decide))
  generalize M / (B * K) = r at rD
  have r0 : 0 ≤ r := by
    rcases rat_lt_or_le r 0 with z | z
    · have := Rat.mul_pos (show 0 < -r by grind) D0
      grind
    · exact z
  have DD : 0 < (B * K) * (B * K) := Rat.mul_pos D0 D0
  have eq : q * ((B * K) * (B * K)) = A * B * (K * K) := by grind
  refine ⟨r, r0, ?_, ?_⟩
  · rcases rat_lt_or_le q (r * r) with z | z
    · have := Rat.mul_pos (show 0 < r * r - q by grind) DD
      have e : r * r * ((B * K) * (B * K)) = M * M := by rw [← rD]; grind
      grind
    · exact z
  · have h3 : d * (B * K) = B := by
      have : d * (B * K) = B * (d * K) := by grind
      rw [this, dm, Rat.mul_one]
    have e : (r + d) * (r + d) * ((B * K) * (B * K)) = (M + B) * (M + B) := by
      have : (r + d) * (r + d) * ((B * K) * (B * K)) = (r * (B * K) + d * (B * K)) * (r * (B * K) + d * (B * K)) := by grind
      rw [this, rD, h3]
    have h4 : (M + 1) * (M + 1) ≤ (M + B) * (M + B) := by
      have := Rat.mul_nonneg (show 0 ≤ B - 1 by grind) (show 0 ≤ (M + B) + (M + 1) by grind)
      grind
    rcases rat_lt_or_le q ((r + d) * (r + d)) with z | z
    · exact z
    · have := Rat.mul_nonneg (show 0 ≤ q - (r + d) * (r + d) by grind) (Rat.le_of_lt DD)
      grind
noncomputable def apx (q : Rat) (h : 0 ≤ q) (n : Nat) : Rat := Classical.choose (approx h n)
theorem apx_spec {q : Rat} (h : 0 ≤ q) (n : Nat) : 0 ≤ apx q h n ∧ apx q h n * apx q h n ≤ q ∧ q < (apx q h n + dn n) * (apx q h n + dn n) := Classical.choose_spec (approx h n)
theorem lt_next {x y d q : Rat} (hx : 0 ≤ x) (hy : 0 ≤ y) (hd : 0 < d) (h1 : x * x ≤ q) (h2 : q < (y + d) * (y + d)) : x < y + d := by
  rcases rat_lt_or_le x (y + d) with z | z
  · exact z
  · have := Rat.mul_nonneg (show 0 ≤ x - (y + d) by grind) (show 0 ≤ x + (y + d) by grind)
    grind
noncomputable def rootS (q : Rat) (h : 0 ≤ q) : Sq := ⟨apx q h, fun e he => by
  obtain ⟨N, hN⟩ := arch he
  refine ⟨N, fun m n hm hn => ?_⟩
  obtain ⟨a0, a1, a2⟩ := apx_spec h m
  obtain ⟨b0, b1, b2⟩ := apx_spec h n
  have := lt_next a0 b0 (dn_pos n) a1 b2
  have := dn_le hn
  grind⟩
theorem sqrt_ex {q : Rat} (h : 0 ≤ q) : ∃ x : Real, 0 ≤ x ∧ x * x = Real.of q := by
  refine ⟨Real.mk (rootS q h), ?_, ?_⟩
  · rw [Real.le_def]
    rintro ⟨e, e0, N, hN⟩
    have h1 : e < ((0 : Nat) : Rat) + - apx q h N := hN N (Nat.le_refl _)
    have := (apx_spec h N).1
    have z : ((0 : Nat) : Rat) = 0 := rfl
    grind
  · refine Quotient.sound (s := sqd) fun e he => ?_
    have cp : 0 < 2 * q + 5 := by grind
    obtain ⟨d, d0, ed⟩ := part cp he
    obtain ⟨N, hN⟩ := arch d0
    refine ⟨N, fun n hn => ?_⟩
    obtain ⟨a0, a1, a2⟩ := apx_spec h n
    have dl := dn_le hn
    have dp := dn_pos n
    have d1 : dn n ≤ 1 := by
      have := dn_le (Nat.zero_le n)
      have z : dn 0 = 1 := by decide +kernel
      grind
    show apx q h n * apx q h n - q < e ∧ q - apx q h n * apx q h n < e
    generalize apx q h n = r at *
    generalize dn n = k at *
    have rq : r ≤ q + 1 := by
      have := sq_nonneg (q + 1)
      refine sq_le a0 (by grind) ?_
      have := Rat.mul_nonneg h h
      grind
    refine ⟨by grind, ?_⟩
    have t1 := Rat.mul_nonneg (Rat.le_of_lt dp) (show 0 ≤ q + 1 - r by grind)
    have t2 := Rat.mul_nonneg (Rat.le_of_lt dp) (show 0 ≤ 1 - k by grind)
    have t3 := Rat.mul_pos cp (show 0 < d - k by grind)
    grind
noncomputable def rtq (q : Rat) : Real := open Classical in if h : 0 ≤ q then Classical.choose (sqrt_ex h) else 0
theorem rtq_nn (q : Rat) : 0 ≤ rtq q := by
  unfold rtq
  split
  · rename_i h
    exact (Classical.choose_spec (sqrt_ex h)).1
  · grind
theorem rtq_sq {q : Rat} (h : 0 ≤ q) : rtq q * rtq q = Real.of q := by
  unfold rtq
  rw [dif_pos h]
  exact (Classical.choose_spec (sqrt_ex h)).2
noncomputable def val (x : Rt) : Real := Real.of x.b + Real.of (x.s : Rat) * rtq x.q
end Rl

namespace Rl
open Lb
/-! ### signs -/
open Classical in
noncomputable def sg (x : Real) : Int := if 0 < x then 1 else if x < 0 then -1 else 0
theorem sg_pos {x : Real} (h : 0 < x) : sg x = 1 := if_pos h
theorem sg_neg {x : Real} (h : x < 0) : sg x = -1 := by
  unfold sg
  rw [if_neg (fun z => Real.asym h z), if_pos h]
theorem sg_zero {x : Real} (h : x = 0) : sg x = 0 := by
  unfold sg
  rw [if_neg (fun z => by grind), if_neg (fun z => by grind)]
theorem sg_cases (x : Real) : (0 < x ∧ sg x = 1) ∨ (x = 0 ∧ sg x = 0) ∨ (x < 0 ∧ sg x = -1) := by
  rcases Real.tri' x 0 with h | h | h
  · exact .inr (.inr ⟨h, sg_neg h⟩)
  · exact .inr (.inl ⟨h, sg_zero h⟩)
  · exact .inl ⟨h, sg_pos h⟩
theorem sg_mul {k x : Real} (hk : 0 < k) : sg (k * x) = sg x := by
  rcases sg_cases x with ⟨h, e⟩ | ⟨h, e⟩ | ⟨h, e⟩ <;> rw [e]
  · exact sg_pos (Real.mul_pos hk h)
  · exact sg_zero (by rw [h]; grind)
  · have := Real.mul_pos hk (show 0 < -x by grind)
    exact sg_neg (by grind)
theorem sg_flip (x : Real) : sg (-x) = - sg x := by
  rcases sg_cases x with ⟨h, e⟩ | ⟨h, e⟩ | ⟨h, e⟩ <;> rw [e]
  · exact sg_neg (by grind)
  · exact sg_zero (by grind)
  · exact sg_pos (by grind)
theorem int_pos {i : Int} : 0 < Real.of (i : Rat) ↔ 0 < i := by
  rw [← Real.of_zero, Real.of_lt]
  exact Rat.intCast_pos
theorem int_neg {i : Int} : Real.of (i : Rat) < 0 ↔ i < 0 := by
  rw [← Real.of_zero, Real.of_lt]
  exact Rat.intCast_neg_iff
theorem int_zero {i : Int} : Real.of (i : Rat) = 0 ↔ i = 0 := by
  rw [← Real.of_zero, Real.of_inj]
  exact Rat.intCast_eq_zero_iff
theorem sg_int (i : Int) : sg (Real.of (i : Rat)) = i.sign := by
  rcases Int.lt_trichotomy i 0 with h | h | h
  · rw [sg_neg (int_neg.mpr h), Int.sign_eq_neg_one_of_neg h]
  · rw [sg_zero (int_zero.mpr h), h]; rfl
  · rw [sg_pos (int_pos.mpr h), Int.sign_eq_one_of_pos h]
theorem of_int_mul (i j : Int) : Real.of ((i * j : Int) : Rat) = Real.of (i : Rat) * Real.of (j : Rat) := by rw [Rat.intCast_mul, Real.of_mul]
theorem of_int_sub (i j : Int) : Real.of ((i - j : Int) : Rat) = Real.of (i : Rat) - Real.of (j : Rat) := by rw [Rat.intCast_sub, Real.of_sub]
/-- the sign of a number and one times the square root of a third -/
theorem field_law {t b h : Int} (h0 : 0 ≤ h) : sg (Real.of (t : Rat) + Real.of (b : Rat) * rtq (h : Rat)) = if t.sign * b.sign ≥ 0 ∨ h = 0 then (if h = 0 then t.sign else (t.sign + b.sign).sign) else t.sign * (t * t - b * b * h).sign := by
  have r0 := rtq_nn (h : Rat)
  have r2 := rtq_sq (q := (h : Rat)) (Rat.intCast_nonneg.mpr h0)
  by_cases hz : h = 0
  · rw [if_pos (.inr hz), if_pos hz]
    have : rtq (h : Rat) = 0 := by
      rw [hz] at r2 ⊢
      rcases Real.mul_zero' (show rtq ((0 : Int) : Rat) * rtq ((0 : Int) : Rat) = 0 by rw [r2]; rfl) with z | z <;> exact z
    rw [this, show Real.of (t : Rat) + Real.of (b : Rat) * 0 = Real.of (t : Rat) by grind, sg_int]
  · have hp : 0 < rtq (h : Rat) := by
      rcases Real.tri' 0 (rtq (h : Rat)) with z | z | z
      · exact z
      · rw [← z, show (0 : Real) * 0 = 0 by grind] at r2
        exact absurd (int_zero.mp r2.symm) hz
      · grind
    have e : sg (Real.of ((t * t - b * b * h : Int) : Rat)) = (t * t - b * b * h).sign := sg_int _
    rw [of_int_sub, of_int_mul, of_int_mul, of_int_mul, ← r2] at e
    rcases Int.lt_trichotomy t 0 with ht | ht | ht
    · have t1 := Int.sign_eq_neg_one_of_neg ht
      have tr := int_neg.mpr ht
      rcases Int.lt_trichotomy b 0 with hb | hb | hb
      · have b1 := Int.sign_eq_neg_one_of_neg hb
        have br := int_neg.mpr hb
        rw [t1, b1, if_pos (.inl (by decide)), if_neg hz]
        have := Real.mul_pos (show 0 < - Real.of (b : Rat) by grind) hp
        exact sg_neg (by grind)
      · rw [t1, hb, if_pos (.inl (by decide)), if_neg hz]
        have : Real.of ((0 : Int) : Rat) = 0 := rfl
        exact sg_neg (by rw [this]; grind)
      · have b1 := Int.sign_eq_one_of_pos hb
        have br := int_pos.mpr hb
        rw [t1, b1, if_neg (by rintro (z | z); exact absurd z (by decide); exact hz z), ← e]
        have pp := Real.mul_pos br hp
        generalize Real.of (t : Rat) = T at *
        generalize Real.of (b : Rat) = B at *
        generalize rtq (h : Rat) = r at *
        rw [show T * T - B * B * (r * r) = (B * r - T) * (-(T + B * r)) by grind, sg_mul (by grind), sg_flip]
        omega
    · rw [ht, if_pos (.inl (by simp)), if_neg hz]
      have z0 : Real.of ((0 : Int) : Rat) = 0 := rfl
      rw [z0, show (0 : Real) + Real.of (b : Rat) * rtq (h : Rat) = rtq (h : Rat) * Real.of (b : Rat) by grind, sg_mul hp, sg_int]
      simp
    · have t1 := Int.sign_eq_one_of_pos ht
      have tr := int_pos.mpr ht
      rcases Int.lt_trichotomy b 0 with hb | hb | hb
      · have b1 := Int.sign_eq_neg_one_of_neg hb
        have br := int_neg.mpr hb
        rw [t1, b1, if_neg (by rintro (z | z); exact absurd z (by decide); exact hz z), ← e]
        have pp := Real.mul_pos (show 0 < - Real.of (b : Rat) by grind) hp
        generalize Real.of (t : Rat) = T at *
        generalize Real.of (b : Rat) = B at *
        generalize rtq (h : Rat) = r at *
        rw [show T * T - B * B * (r * r) = (T - B * r) * (T + B * r) by grind, sg_mul (by grind)]
        omega
      · rw [t1, hb, if_pos (.inl (by decide)), if_neg hz]
        have : Real.of ((0 : Int) : Rat) = 0 := rfl
        exact sg_pos (by rw [this]; grind)
      · have b1 := Int.sign_eq_one_of_pos hb
        have br := int_pos.mpr hb
        rw [t1, b1, if_pos (.inl (by decide)), if_neg hz]
        have := Real.mul_pos br hp
        exact sg_pos (by grind)
end Rl

namespace Rl
open Lb
theorem of_nn {q : Rat} (h : 0 ≤ q) : 0 ≤ Real.of q := by
  rw [← Real.of_zero, Real.of_le]; exact h
theorem of_pos {q : Rat} (h : 0 < q) : 0 < Real.of q := by
  rw [← Real.of_zero, Real.of_lt]; exact h
theorem mul_nn' {a b : Real} (ha : 0 ≤ a) (hb : 0 ≤ b) : 0 ≤ a * b := by
  rcases Real.tri' 0 a with h | h | h
  · rcases Real.tri' 0 b with k | k | k
    · have := Real.mul_pos h k; grind
    · rw [← k]; grind
    · grind
  · rw [← h]; grind
  · grind
theorem rtq_uniq {q : Rat} {x : Real} (h0 : 0 ≤ q) (hx : 0 ≤ x) (h : x * x = Real.of q) : rtq q = x := Real.sq_inj (rtq_nn q) hx (by rw [rtq_sq h0, h])
theorem rtq_zero : rtq 0 = 0 := rtq_uniq (by decide) (by grind) (by rw [Real.of_zero]; grind)
theorem rtq_scale {q g : Rat} (h0 : 0 ≤ q) (hg : 0 ≤ g) : rtq (q * (g * g)) = rtq q * Real.of g := by
  refine rtq_uniq (Rat.mul_nonneg h0 (Rat.mul_nonneg hg hg)) (mul_nn' (rtq_nn q) (of_nn hg)) ?_
  rw [Real.of_mul, Real.of_mul, ← rtq_sq h0]
  grind
theorem rtq_pos {q : Rat} (h : 0 < q) : 0 < rtq q := by
  rcases Real.tri' 0 (rtq q) with z | z | z
  · exact z
  · have e := rtq_sq (Rat.le_of_lt h)
    rw [← z] at e
    have := of_pos h
    grind
  · have := rtq_nn q
    grind
theorem rtq_sqb {q : Rat} (h0 : 0 ≤ q) (h : sqb q) : rtq q = Real.of (sqr q) := rtq_uniq h0 (of_nn (sqr_nonneg q)) (by rw [← Real.of_mul, sqr_mul h])
theorem val_mk (b : Rat) (s : Int) (q : Rat) : val ⟨b, s, q⟩ = Real.of b + Real.of (s : Rat) * rtq q := rfl
theorem of_int0 : Real.of ((0 : Int) : Rat) = 0 := rfl
theorem of_int1 : Real.of ((1 : Int) : Rat) = 1 := rfl
theorem of_intm1 : Real.of ((-1 : Int) : Rat) = -1 := by
  have := Real.of_neg 1
  rw [Real.of_one] at this
  exact this
theorem canon_val {b q : Rat} {s : Int} (h0 : 0 ≤ q) : val (canon b s q) = Real.of b + Real.of (s : Rat) * rtq q := by
  unfold canon
  split
  · rename_i h
    rw [val_mk, of_int0]
    rcases h with h | h
    · rw [h, of_int0]; grind
    · rw [h, rtq_zero]; grind
  · split
    · rename_i h
      rw [val_mk, of_int0, rtq_sqb h0 h, Real.of_add, Real.of_mul]
      grind
    · rfl
/-- the sign of a root, in whole numbers -/
theorem root_law (x : Rt) (h0 : 0 ≤ x.q) : sg (val x) = sg (Real.of ((x.b.num * x.q.den * x.q.den : Int) : Rat) + Real.of ((x.s * (x.b.den * x.q.den) : Int) : Rat) * rtq ((x.q.num * x.q.den : Int) : Rat)) := by
  have eb := num_den x.b
  have eq := num_den x.q
  have bd : (0 : Rat) < ((x.b.den : Int) : Rat) := Rat.intCast_pos.mpr (by have := x.b.den_pos; omega)
  have qd : (0 : Rat) < ((x.q.den : Int) : Rat) := Rat.intCast_pos.mpr (by have := x.q.den_pos; omega)
  have e1 : ((x.q.num * x.q.den : Int) : Rat) = x.q * (((x.q.den : Int) : Rat) * ((x.q.den : Int) : Rat)) := by
    rw [Rat.intCast_mul, ← eq]; grind
  rw [e1, rtq_scale h0 (Rat.le_of_lt qd)]
  have e2 : ((x.b.num * x.q.den * x.q.den : Int) : Rat) = x.b * (((x.b.den : Int) : Rat) * (((x.q.den : Int) : Rat) * ((x.q.den : Int) : Rat))) := by
    rw [Rat.intCast_mul, Rat.intCast_mul, ← eb]; grind
  have e3 : ((x.s * (x.b.den * x.q.den) : Int) : Rat) = (x.s : Rat) * (((x.b.den : Int) : Rat) * ((x.q.den : Int) : Rat)) := by
    rw [Rat.intCast_mul, Rat.intCast_mul]
  rw [e2, e3]
  unfold val
  have p := Real.mul_pos (of_pos bd) (Real.mul_pos (of_pos qd) (of_pos qd))
  rw [← sg_mul p]
  congr 1
  simp only [Real.of_mul]
  grind
/-- a root as it is told -/
structure Ok (x : Rt) : Prop where
  q0 : 0 ≤ x.q
  s : x.s = -1 ∨ x.s = 0 ∨ x.s = 1
  z : x.s = 0 → x.q = 0
  p : x.s ≠ 0 → 0 < x.q
def lessS (x : Rt) (q : Rat) : Rt := canon (x.b * x.b + x.q + -q) (x.b * ((2 * x.s : Int) : Rat)).num.sign (x.q * ((x.b * ((2 * x.s : Int) : Rat)) * (x.b * ((2 * x.s : Int) : Rat))))
theorem num_sign {r : Rat} : (0 < r → r.num.sign = 1) ∧ (r < 0 → r.num.sign = -1) := by
  have n0 : 0 ≤ r.num ↔ 0 ≤ r := Rat.num_nonneg
  have nz : r.num = 0 ↔ r = 0 := Rat.num_eq_zero
  constructor
  · intro h
    have a := n0.mpr (Rat.le_of_lt h)
    have b : r.num ≠ 0 := fun z => by have := nz.mp z; rw [this] at h; exact absurd h (by decide)
    exact Int.sign_eq_one_of_pos (by omega)
  · intro h
    have a : ¬ 0 ≤ r.num := fun z => absurd (n0.mp z) (Rat.not_le.mpr h)
    exact Int.sign_eq_neg_one_of_neg (by omega)
theorem sign_root {q u : Rat} (h0 : 0 ≤ q) : Real.of (u.num.sign : Rat) * rtq (q * (u * u)) = Real.of u * rtq q := by
  rcases rat_lt_or_le 0 u with h | h
  · rw [num_sign.1 h, rtq_scale h0 (Rat.le_of_lt h), of_int1]; grind
  · rcases rat_lt_or_le u 0 with k | k
    · rw [num_sign.2 k, show q * (u * u) = q * ((-u) * (-u)) by grind, rtq_scale h0 (by grind), of_intm1, Real.of_neg]; grind
    · have : u = 0 := Rat.le_antisymm h k
      rw [this, show q * (0 * 0) = 0 by grind, rtq_zero, Real.of_zero]; grind
theorem s_sq {x : Rt} (h : Ok x) : Real.of (x.s : Rat) * Real.of (x.s : Rat) * (rtq x.q * rtq x.q) = Real.of x.q := by
  rw [rtq_sq h.q0]
  rcases h.s with e | e | e
  · rw [e, of_intm1]; grind
  · rw [e, h.z e, of_int0, Real.of_zero]; grind
  · rw [e, of_int1]; grind
theorem less_val {x : Rt} (h : Ok x) (q : Rat) : val (lessS x q) = val x * val x - Real.of q := by
  unfold lessS
  have hq : 0 ≤ x.q * ((x.b * ((2 * x.s : Int) : Rat)) * (x.b * ((2 * x.s : Int) : Rat))) := Rat.mul_nonneg h.q0 (sq_nonneg _)
  rw [canon_val hq, sign_root h.q0]
  have s2 := s_sq h
  unfold val
  simp only [Real.of_add, Real.of_mul, Real.of_neg, of_int_mul]
  have two : Real.of ((2 : Int) : Rat) = 2 := rfl
  rw [two]
  grind
/-- how one root is to another one, as the program reckons it -/
noncomputable def cmpS (x y : Rt) : Int := if y.s = 0 then sg (val ⟨x.b + -y.b, x.s, x.q⟩) else if sg (val ⟨x.b + -y.b, x.s, x.q⟩) * y.s ≤ 0 then (if sg (val ⟨x.b + -y.b, x.s, x.q⟩) ≠ 0 then sg (val ⟨x.b + -y.b, x.s, x.q⟩) else 0 - y.s) else y.s * sg (val (lessS ⟨x.b + -y.b, x.s, x.q⟩ y.q))
theorem cmp_law {x y : Rt} (hx : Ok x) (hy : Ok y) : cmpS x y = sg (val x - val y) := by
  have hn : Ok ⟨x.b + -y.b, x.s, x.q⟩ := ⟨hx.q0, hx.s, hx.z, hx.p⟩
  have e : val ⟨x.b + -y.b, x.s, x.q⟩ = val x - Real.of y.b := by
    unfold val
    simp only [Real.of_add, Real.of_neg]
    grind
  have ey : val y = Real.of y.b + Real.of (y.s : Rat) * rtq y.q := rfl
  have dv : val x - val y = val ⟨x.b + -y.b, x.s, x.q⟩ - Real.of (y.s : Rat) * rtq y.q := by rw [e, ey]; grind
  unfold cmpS
  rw [less_val hn, dv, ← rtq_sq hy.q0]
  generalize val ⟨x.b + -y.b, x.s, x.q⟩ = n
  by_cases h0 : y.s = 0
  · rw [if_pos h0, h0, of_int0]
    congr 1
    grind
  · rw [if_neg h0]
    have rp := rtq_pos (hy.p h0)
    generalize rtq y.q = r at *
    rcases sg_cases n with ⟨h, es⟩ | ⟨h, es⟩ | ⟨h, es⟩ <;> rw [es] <;> rcases hy.s with k | k | k
    · rw [k, if_pos (by decide), if_pos (by decide), of_intm1, sg_pos (by grind)]
    · exact absurd k h0
    · rw [k, if_neg (by decide), of_int1, show n * n - r * r = (n + r) * (n - 1 * r) by grind, sg_mul (by grind)]
      omega
    · rw [k, if_pos (by decide), if_neg (by decide), of_intm1, sg_pos (by grind)]
      decide
    · exact absurd k h0
    · rw [k, if_pos (by decide), if_neg (by decide), of_int1, sg_neg (by grind)]
      decide
    · rw [k, if_neg (by decide), of_intm1, show n * n - r * r = (r - n) * (-(n - -1 * r)) by grind, sg_mul (by grind), sg_flip]
      omega
    · exact absurd k h0
    · rw [k, if_pos (by decide), if_pos (by decide), of_int1, sg_neg (by grind)]
end Rl

namespace Lr
open PySem PySem.Spec PyProof.Rows L2 Bl Lb Rl
local macro_rules | `(tactic| walk_at "bl0") => `(tactic| (with_reducible (first
  | (refine Go.gVr ?_; first | refine Go.vr0 ?_ | refine Go.vr1 ?_ | refine Go.vr2 ?_ | refine Go.vr3 ?_ | refine Go.vr4 ?_ | refine Go.vr5 ?_ | refine Go.vr6 ?_ | refine Go.vr7 ?_ | refine Go.vr8 ?_ | refine Go.vr9 ?_ | refine Go.vr10 ?_ | refine Go.vr11 ?_ | refine Go.vr12 ?_ | refine Go.vr13 ?_ | refine Go.vr14 ?_ | refine Go.vr15 ?_ | refine Go.vr16 ?_ | refine Go.vr17 ?_ | refine Go.vr18 ?_ | refine Go.vr19 ?_ | refine Go.vr20 ?_ | refine Go.vr21 ?_ | refine Go.vr22 ?_ | refine Go.vr23 ?_)
  | refine Go.seq ?_
  | refine Go.nx' ?_
  | refine Go.ret ?_
  | refine Go.if' ?_
  | refine Go.asg ?_
  | refine Go.par ?_
  | refine Go.drop ?_
  | refine Go.brk ?_
  | refine Go.cnt ?_
  | refine Go.raise ?_
  | refine Go.thru ?_
  | refine Go.tryAs ?_
  | refine Go.for' ?_
  | refine Go.sub ?_
  | refine Go.retN ?_
  | refine Go.par_cons ?_
  | refine Go.par_nil ?_
  | refine Go.cn' ?_
  | refine Go.two ?_
  | refine Go.nil ?_
  | refine Go.cons ?_
  | refine Go.tup ?_
  | refine Go.lst ?_
  | refine Go.lstR ?_
  | refine Go.tbl' ?_
  | refine Go.tblK' ?_
  | refine Go.ttr' ?_
  | refine Go.truB ?_
  | refine Go.truI ?_
  | refine Go.truN ?_
  | refine Go.and' ?_
  | refine Go.or' ?_
  | refine Go.not' ?_
  | refine Go.vOf' ?_
  | refine Go.vNot' ?_
  | refine Go.eIf' ?_
  | refine Go.ifT ?_
  | refine Go.ifF ?_
  | refine Go.ifN ?_
  | refine Go.add ?_
  | refine Go.sub' ?_
  | refine Go.lt ?_
  | refine Go.le ?_
  | refine Go.gt ?_
  | refine Go.ge ?_
  | refine Go.eqI ?_
  | refine Go.neI ?_
  | refine Go.is' ?_
  | refine Go.isNot' ?_
  | refine Go.chain ?_
  | refine Go.dB' ?_
  | refine Go.neg ?_
  | refine Go.neg' ?_
  | refine Go.abs' ?_
  | refine Go.lenT ?_
  | refine Go.lenL ?_
  | refine Go.max' ?_
  | refine Go.min' ?_
  | refine Go.intI ?_
  | refine Go.intB ?_
  | refine Go.tupL ?_
  | refine Go.tupT ?_
  | refine Go.isi ?_
  | refine Go.call ?_
  | refine Go.iVal' ?_
  | refine Go.iValT ?_
  | refine Go.iValL ?_
  | refine Go.r1 ?_
  | refine Go.r2 ?_
  | refine Go.star ?_
  | refine Go.l_cons ?_
  | refine Go.l_nil ?_
  | refine Go.enum' ?_
  | refine Go.rev' ?_
  | refine Go.zip' ?_
  | refine Go.wipe_nil ?_
  | refine Go.wipe_cons ?_
  | refine Go.iadd ?_
  | refine Go.sl ?_
  | refine Go.oN ?_
  | refine Go.oS ?_
  | refine Go.osK' ?_
  | refine Go.getL ?_
  | refine Go.lc ?_
  | refine Go.lcR ?_
  | refine Go.lg_nil ?_
  | refine Go.lg_cons ?_
  | refine Go.yes ?_
  | refine Go.for_nil ?_
  | refine Go.for_cons ?_
  | refine Go.revT ?_
  | refine Go.revL ?_
  | refine Go.zipT ?_
  | refine Go.zipL ?_
  | refine Go.tupK' rfl ?_
  | refine Go.lstK' rfl ?_
  | refine Go.callK' rfl rfl ?_
  | refine Go.lcL rfl ?_
  | refine Go.getLL' rfl ?_
  | refine Go.addT rfl ?_
  | (refine Go.gAsg ?_; first | refine Go.set0 ?_ | refine Go.set1 ?_ | refine Go.set2 ?_ | refine Go.set3 ?_ | refine Go.set4 ?_ | refine Go.set5 ?_ | refine Go.set6 ?_ | refine Go.set7 ?_ | refine Go.set8 ?_ | refine Go.set9 ?_ | refine Go.set10 ?_ | refine Go.set11 ?_ | refine Go.set12 ?_ | refine Go.set13 ?_ | refine Go.set14 ?_ | refine Go.set15 ?_ | refine Go.set16 ?_ | refine Go.set17 ?_ | refine Go.set18 ?_ | refine Go.set19 ?_ | refine Go.set20 ?_ | refine Go.set21 ?_ | refine Go.set22 ?_ | refine Go.set23 ?_ | refine Go.tp_cons ?_ | refine Go.tp_nil ?_)
  | (refine Go.gIxT ?_; first | refine Go.ixT0 ?_ | refine Go.ixT1 ?_ | refine Go.ixT2 ?_ | refine Go.ixT3 ?_ | refine Go.ixT4 ?_ | refine Go.ixT5 ?_ | refine Go.ixT6 ?_ | refine Go.ixT7 ?_)
  | (refine Go.gIxL ?_; first | refine Go.ixL0 ?_ | refine Go.ixL1 ?_ | refine Go.ixL2 ?_ | refine Go.ixL3 ?_ | refine Go.ixL4 ?_ | refine Go.ixL5 ?_ | refine Go.ixL6 ?_ | refine Go.ixL7 ?_)
  | (refine Go.gAug ?_; first | refine Go.aug0 ?_ | refine Go.aug1 ?_ | refine Go.aug2 ?_ | refine Go.aug3 ?_ | refine Go.aug4 ?_ | refine Go.aug5 ?_ | refine Go.aug6 ?_ | refine Go.aug7 ?_ | refine Go.aug8 ?_ | refine Go.aug9 ?_ | refine Go.aug10 ?_ | refine Go.aug11 ?_ | refine Go.aug12 ?_ | refine Go.aug13 ?_ | refine Go.aug14 ?_ | refine Go.aug15 ?_ | refine Go.aug16 ?_ | refine Go.aug17 ?_ | refine Go.aug18 ?_ | refine Go.aug19 ?_ | refine Go.aug20 ?_ | refine Go.aug21 ?_ | refine Go.aug22 ?_ | refine Go.aug23 ?_)
  | (refine Go.gStar ?_; first | refine Go.startup0 ?_ | refine Go.starlst0 ?_ | refine Go.startup1 ?_ | refine Go.starlst1 ?_ | refine Go.startup2 ?_ | refine Go.starlst2 ?_ | refine Go.startup3 ?_ | refine Go.starlst3 ?_ | refine Go.startup4 ?_ | refine Go.starlst4 ?_ | refine Go.startup_2 ?_ | refine Go.starlst_2 ?_ | refine Go.startup_3 ?_ | refine Go.starlst_3 ?_ | refine Go.startup_4 ?_ | refine Go.starlst_4 ?_)
  | refine Go.slfT1 ?_ | refine Go.sltT1 ?_ | refine Go.slfL1 ?_ | refine Go.sltL1 ?_ | refine Go.slfT2 ?_ | refine Go.sltT2 ?_ | refine Go.slfL2 ?_ | refine Go.sltL2 ?_ | refine Go.slfT3 ?_ | refine Go.sltT3 ?_ | refine Go.slfL3 ?_ | refine Go.sltL3 ?_ | refine Go.slfT4 ?_ | refine Go.sltT4 ?_ | refine Go.slfL4 ?_ | refine Go.sltL4 ?_
  | (refine Go.gUns ?_; first | refine Go.uns0 ?_ | refine Go.uns1 ?_ | refine Go.uns2 ?_ | refine Go.uns3 ?_ | refine Go.uns4 ?_ | refine Go.uns5 ?_ | refine Go.uns6 ?_ | refine Go.uns7 ?_ | refine Go.uns8 ?_ | refine Go.uns9 ?_ | refine Go.uns10 ?_ | refine Go.uns11 ?_ | refine Go.uns12 ?_ | refine Go.uns13 ?_ | refine Go.uns14 ?_ | refine Go.uns15 ?_ | refine Go.uns16 ?_ | refine Go.uns17 ?_ | refine Go.uns18 ?_ | refine Go.uns19 ?_ | refine Go.uns20 ?_ | refine Go.uns21 ?_ | refine Go.uns22 ?_ | refine Go.uns23 ?_)
  | refine Go.entup0 ?_ | refine Go.enlst0 ?_ | refine Go.entup1 ?_ | refine Go.enlst1 ?_ | refine Go.entup2 ?_ | refine Go.enlst2 ?_ | refine Go.entup3 ?_ | refine Go.enlst3 ?_ | refine Go.entup4 ?_ | refine Go.enlst4 ?_ | refine Go.entup5 ?_ | refine Go.enlst5 ?_ | refine Go.entup6 ?_ | refine Go.enlst6 ?_)))
local macro_rules | `(tactic| walk_at "bl1") => `(tactic| first | ((with_reducible refine Go.gEqS ?_); (first | refine Go.eqS (b := true) ⟨rfl, by decide +kernel⟩ ⟨rfl, by decide +kernel⟩ rfl ?_ | refine Go.eqS (b := false) ⟨rfl, by decide +kernel⟩ ⟨rfl, by decide +kernel⟩ rfl ?_)) | ((with_reducible refine Go.gNeS ?_); (first | refine Go.neS (b := true) ⟨rfl, by decide +kernel⟩ ⟨rfl, by decide +kernel⟩ rfl ?_ | refine Go.neS (b := false) ⟨rfl, by decide +kernel⟩ ⟨rfl, by decide +kernel⟩ rfl ?_)) | walk_at "bl0" | ((with_reducible refine Go.gAll ?_); (refine Go.allB (by rfl) ?_)) | ((with_reducible refine Go.gIxT ?_); (refine Go.ixT (by rfl) ?_)) | ((with_reducible refine Go.gIxL ?_); (refine Go.ixL (by rfl) ?_)))
local macro_rules | `(tactic| walk_at "bl") => `(tactic| (repeat walk_at "bl1"))
local macro_rules | `(tactic| walk_at "bl0") => `(tactic| (with_reducible (first | refine Go.zipS' ?_ | refine Go.zipR' ?_ | refine Go.seqT ?_ | refine Go.seqL ?_ | refine Go.zipST rfl ?_ | refine Go.zipSL rfl ?_ | refine Go.for_zc ?_ | refine Go.for_zn ?_ | refine Go.lg_zc ?_ | refine Go.lg_zn ?_)))
theorem sign_sm (i : Int) : sm 2 i.sign := by
  rcases Int.lt_trichotomy i 0 with z | z | z
  · rw [Int.sign_eq_neg_one_of_neg z]; exact sm.of (by decide)
  · rw [z]; exact sm.of (by decide)
  · rw [Int.sign_eq_one_of_pos z]; exact sm.of (by decide)
theorem field_sign_spec {t b h : Int} {n : Nat} {S : Sto} {Q : DK} {E : EK} (ht : sm n t) (hb : sm n b) (hh : sm n h) (h0 : 0 ≤ h) (hn : n ≤ 200000) (k : Q (.int (sg (Real.of (t : Rat) + Real.of (b : Rat) * rtq (h : Rat)))) S) : m_field_sign [.int t, .int b, .int h] S Q E := by
  refine e_field_sign ?_
  unfold t_field_sign
  rw [field_law h0] at k
  have st := sign_sm t
  have sb := sign_sm b
  walk_at "bl"
  refine sign_of_spec ?_
  walk_at "bl"
  refine sign_of_spec ?_
  walk_at "bl"
  refine Go.mul (st.cmul sb (by decide)) ?_
  walk_at "bl"
  refine Go.ifD (fun h1 => ?_) fun h1 => ?_
  · rw [if_pos (.inl h1)] at k
    walk_at "bl"
    refine Go.ifD (fun h2 => ?_) fun h2 => ?_
    · rw [if_pos h2] at k
      walk_at "bl"
      exact sign_of_spec k
    · rw [if_neg h2] at k
      walk_at "bl"
      refine sign_of_spec ?_
      walk_at "bl"
      refine sign_of_spec ?_
      walk_at "bl"
      exact sign_of_spec k
  · walk_at "bl"
    refine Go.ifD (fun h2 => ?_) fun h2 => ?_
    · rw [if_pos (.inr h2), if_pos h2] at k
      walk_at "bl"
      refine Go.ifD (fun h3 => ?_) fun h3 => absurd h2 h3
      walk_at "bl"
      exact sign_of_spec k
    · rw [if_neg (fun z => z.elim h1 h2)] at k
      walk_at "bl"
      refine sign_of_spec ?_
      walk_at "bl"
      refine Go.mul (ht.cmul ht (by omega)) ?_
      walk_at "bl"
      refine Go.mul (hb.cmul hb (by omega)) ?_
      walk_at "bl"
      refine Go.mul ((hb.mul hb).cmul hh (by omega)) ?_
      walk_at "bl"
      refine sign_of_spec ?_
      walk_at "bl"
      refine Go.mul (st.cmul (sign_sm _) (by decide)) ?_
      walk_at "bl"
      exact k
theorem root_sign_spec {x : Rt} {n m : Nat} {S : Sto} {Q : DK} {E : EK} (hb : sr n x.b) (hq : sr m x.q) (hs : x.s = -1 ∨ x.s = 0 ∨ x.s = 1) (h0 : 0 ≤ x.q) (hn : n + 2 * m ≤ 20000) (k : Q (.int (sg (val x))) S) : m_root_sign [rt x] S Q E := by
  refine e_root_sign ?_
  unfold t_root_sign
  rw [root_law x h0] at k
  have ss : sm 2 x.s := by unfold sm; omega
  walk_at "bl"
  refine Go.mul (hb.d.cmul hq.d (by omega)) ?_
  walk_at "bl"
  refine Go.mul (hb.n.cmul hq.d (by omega)) ?_
  walk_at "bl"
  refine Go.mul ((hb.n.mul hq.d).cmul hq.d (by omega)) ?_
  walk_at "bl"
  refine Go.mul (ss.cmul (hb.d.mul hq.d) (by omega)) ?_
  walk_at "bl"
  refine Go.mul (hq.n.cmul hq.d (by omega)) ?_
  walk_at "bl"
  exact field_sign_spec (n := n + 2 * m + 4) (((hb.n.mul hq.d).mul hq.d).mono (by omega)) ((ss.mul (hb.d.mul hq.d)).mono (by omega)) ((hq.n.mul hq.d).mono (by omega)) (Int.mul_nonneg (Rat.num_nonneg.mpr h0) (by omega)) (by omega) k
theorem neg_fr (q : Rat) : D.tup [.int (0 - q.num), .int (q.den : Int)] = fr (-q) := by
  rw [show (0 : Int) - q.num = -q.num by omega]
  rfl
theorem squared_less_spec {x : Rt} {q : Rat} {n m : Nat} {S : Sto} {Q : DK} {E : EK} (hb : sr n x.b) (hq : sr m x.q) (hs : x.s = -1 ∨ x.s = 0 ∨ x.s = 1) (h0 : 0 ≤ x.q) (hy : sr m q) (hn : 2 * n + 3 * m ≤ 4350) (k : Q (rt (lessS x q)) S) : m_squared_less [rt x, fr q] S Q E := by
  refine e_squared_less ?_
  unfold t_squared_less
  walk_at "bl"
  refine times_mn hb hb (by omega) ?_
  walk_at "bl"
  refine plus_mn (hb.mul hb) hq (by omega) ?_
  walk_at "bl"
  rw [neg_fr]
  have s1 := ((hb.mul hb).add hq).add hy.neg
  refine plus_mn ((hb.mul hb).add hq) hy.neg (by omega) ?_
  have ss : sm 2 x.s := by unfold sm; omega
  have s2 : sm 2 (2 : Int) := sm.of (by decide)
  walk_at "bl"
  refine Go.mul (s2.cmul ss (by decide)) ?_
  walk_at "bl"
  have s3 : sr 5 ((2 * x.s : Int) : Rat) := sr.int ((s2.mul ss).mono (by decide)) (by decide)
  refine times_mn (a := x.b) (b := ((2 * x.s : Int) : Rat)) hb s3 (by omega) ?_
  have s4 := hb.mul s3
  walk_at "bl"
  refine sign_of_spec ?_
  walk_at "bl"
  refine times_mn s4 s4 (by omega) ?_
  walk_at "bl"
  refine times_mn hq (s4.mul s4) (by omega) ?_
  walk_at "bl"
  exact root_spec (n := 4400) (s1.mono (by omega)) ((hq.mul (s4.mul s4)).mono (by omega)) (Rat.mul_nonneg h0 (Lb.sq_nonneg _)) (Lb.num_sign _) (by decide) k
theorem less_sr {x : Rt} {q : Rat} {n m : Nat} (hb : sr n x.b) (hq : sr m x.q) (hs : x.s = -1 ∨ x.s = 0 ∨ x.s = 1) (h0 : 0 ≤ x.q) (hy : sr m q) : sr (4 * n + 3 * m + 20) (lessS x q).b ∧ sr (2 * n + m + 20) (lessS x q).q ∧ 0 ≤ (lessS x q).q ∧ ((lessS x q).s = -1 ∨ (lessS x q).s = 0 ∨ (lessS x q).s = 1) := by
  have ss : sm 2 x.s := by unfold sm; omega
  have s2 : sm 2 (2 : Int) := sm.of (by decide)
  have s3 : sr 5 ((2 * x.s : Int) : Rat) := sr.int ((s2.mul ss).mono (by decide)) (by decide)
  have s4 := hb.mul s3
  obtain ⟨a, b, c, d⟩ := canon_sr (((hb.mul hb).add hq).add hy.neg) (hq.mul (s4.mul s4)) (Rat.mul_nonneg h0 (Lb.sq_nonneg _)) (Lb.num_sign (x.b * ((2 * x.s : Int) : Rat)))
  exact ⟨a.mono (by omega), b.mono (by omega), c, d⟩
theorem compare_spec {x y : Rt} {n m : Nat} {S : Sto} {Q : DK} {E : EK} (hx : Ok x) (hy : Ok y) (xb : sr n x.b) (xq : sr m x.q) (yb : sr n y.b) (yq : sr m y.q) (hn : 4 * n + 3 * m ≤ 4300) (k : Q (.int (sg (val x - val y))) S) : m_compare [rt x, rt y] S Q E := by
  refine e_compare ?_
  unfold t_compare
  rw [← cmp_law hx hy] at k
  unfold cmpS at k
  have nb := (xb.add yb.neg)
  have sy : sm 2 y.s := by have := hy.s; unfold sm; omega
  walk_at "bl"
  rw [neg_fr]
  refine moved_spec (n := n) xb yb.neg (by omega) ?_
  walk_at "bl"
  refine root_sign_spec (x := ⟨x.b + -y.b, x.s, x.q⟩) nb xq hx.s hx.q0 (by omega) ?_
  have sg2 : sm 2 (sg (val ⟨x.b + -y.b, x.s, x.q⟩)) := by
    rcases sg_cases (val ⟨x.b + -y.b, x.s, x.q⟩) with ⟨_, e⟩ | ⟨_, e⟩ | ⟨_, e⟩ <;> rw [e] <;> exact sm.of (by decide)
  walk_at "bl"
  refine Go.ifD (fun h1 => ?_) fun h1 => ?_
  · rw [if_pos h1] at k
    walk_at "bl"
    exact k
  · rw [if_neg h1] at k
    walk_at "bl"
    refine Go.mul (sg2.cmul sy (by decide)) ?_
    walk_at "bl"
    refine Go.ifD (fun h2 => ?_) fun h2 => ?_
    · rw [if_pos h2] at k
      walk_at "bl"
      refine Go.ifD (fun h3 => ?_) fun h3 => ?_
      · rw [if_neg (fun z => z h3)] at k
        walk_at "bl"
        exact k
      · rw [if_pos h3] at k
        walk_at "bl"
        exact k
    · rw [if_neg h2] at k
      walk_at "bl"
      refine squared_less_spec (x := ⟨x.b + -y.b, x.s, x.q⟩) nb xq hx.s hx.q0 yq (by omega) ?_
      walk_at "bl"
      obtain ⟨a, b, c, d⟩ := less_sr (x := ⟨x.b + -y.b, x.s, x.q⟩) nb xq hx.s hx.q0 yq
      refine root_sign_spec a b d c (by omega) ?_
      walk_at "bl"
      refine Go.mul (sy.cmul (n := 2) ?_ (by decide)) ?_
      · rcases sg_cases (val (lessS ⟨x.b + -y.b, x.s, x.q⟩ y.q)) with ⟨_, e⟩ | ⟨_, e⟩ | ⟨_, e⟩ <;> rw [e] <;> exact sm.of (by decide)
      walk_at "bl"
      exact k
end Lr

namespace Rl
open Lb
/-! ### unlike roots are apart -/
theorem mul_lt' {x y B C : Real} (h1 : -B < x) (h2 : x < B) (h3 : -C < y) (h4 : y < C) : -(B * C) < x * y ∧ x * y < B * C := by
  have a := Real.mul_pos (show 0 < B - x by grind) (show 0 < C + y by grind)
  have b := Real.mul_pos (show 0 < B + x by grind) (show 0 < C - y by grind)
  have c := Real.mul_pos (show 0 < B - x by grind) (show 0 < C - y by grind)
  have d := Real.mul_pos (show 0 < B + x by grind) (show 0 < C + y by grind)
  exact ⟨by grind, by grind⟩
/-- the product of the four conjugates, in fractions -/
def nrm4 (d p q : Rat) : Rat := (d * d + p - q) * (d * d + p - q) - 4 * (d * d) * p
theorem nrm4_eq {d p q : Rat} {u v : Real} (hu : u * u = Real.of p) (hv : v * v = Real.of q) : (Real.of d + u - v) * ((Real.of d + u + v) * ((Real.of d - u - v) * (Real.of d - u + v))) = Real.of (nrm4 d p q) := by
  have four : Real.of 4 = 4 := rfl
  unfold nrm4
  simp only [Real.of_sub, Real.of_mul, Real.of_add, ← hu, ← hv, four]
  grind
/-- it is a whole number by this one -/
theorem nrm4_int (d p q : Rat) : ∃ Z : Int, nrm4 d p q * (((d.den : Int) * d.den * (p.den * q.den) * (d.den * d.den * (p.den * q.den)) : Int) : Rat) = (Z : Rat) := by
  have h1 := num_den d
  have h2 := num_den p
  have h3 := num_den q
  refine ⟨(d.num * d.num * (p.den * q.den) + p.num * (d.den * d.den * q.den) - q.num * (d.den * d.den * p.den)) * (d.num * d.num * (p.den * q.den) + p.num * (d.den * d.den * q.den) - q.num * (d.den * d.den * p.den)) - 4 * (d.num * d.num) * (p.num * (d.den * d.den * (p.den * (q.den * q.den)))), ?_⟩
  simp only [Rat.intCast_sub, Rat.intCast_mul, Rat.intCast_add, ← h1, ← h2, ← h3]
  have four : ((4 : Int) : Rat) = 4 := rfl
  rw [four]
  unfold nrm4
  grind
theorem sqb_div {a b q : Rat} (hb : b ≠ 0) (h : a * a = b * b * q) : sqb q := by
  refine sqb_of (t := a / b) ?_
  have e := Rat.div_mul_cancel (a := a) hb
  generalize a / b = c at *
  rw [← e] at h
  have z : b * (b * (c * c - q)) = 0 := by grind
  rcases Rat.mul_eq_zero.mp z with z | z
  · exact absurd z hb
  · rcases Rat.mul_eq_zero.mp z with z | z
    · exact absurd z hb
    · grind
/-- unlike roots, of which the product of the conjugates comes to 0 -/
theorem nrm4_zero {x y : Rt} (hx : Ok x) (hy : Ok y) (cx : Cn x) (cy : Cn y) (h : nrm4 (x.b - y.b) x.q y.q = 0) : x = y ∨ (x.b = y.b ∧ x.q = y.q ∧ x.s ≠ 0 ∧ x.s = -y.s) := by
  unfold nrm4 at h
  by_cases hd : x.b - y.b = 0
  · have eb : x.b = y.b := by grind
    rw [hd] at h
    have z : (x.q - y.q) * (x.q - y.q) = 0 := by grind
    have eq : x.q = y.q := by rcases Rat.mul_eq_zero.mp z with z | z <;> grind
    by_cases hs : x.s = 0
    · have q0 := hx.z hs
      have ys : y.s = 0 := by
        false_or_by_contra
        rename_i hh
        have := hy.p hh
        rw [← eq, q0] at this
        exact absurd this (by decide)
      left
      cases x; cases y
      simp only at eb eq hs ys
      rw [eb, eq, hs, ys]
    · have ys : y.s ≠ 0 := fun z => by
        have := hy.z z
        have := hx.p hs
        rw [eq, hy.z z] at this
        exact absurd this (by decide)
      by_cases e : x.s = y.s
      · left
        cases x; cases y
        simp only at eb eq e
        rw [eb, eq, e]
      · right
        refine ⟨eb, eq, hs, ?_⟩
        have := hx.s
        have := hy.s
        omega
  · have n2 : 2 * (x.b - y.b) ≠ 0 := fun z => hd (by grind)
    have s1 := sqb_div (a := (x.b - y.b) * (x.b - y.b) + x.q - y.q) (b := 2 * (x.b - y.b)) (q := x.q) n2 (by grind)
    rcases cx with ⟨c1, c2⟩ | ⟨_, _, c⟩
    · rw [c2] at h
      have z : ((x.b - y.b) * (x.b - y.b) - y.q) * ((x.b - y.b) * (x.b - y.b) - y.q) = 0 := by grind
      have e : (x.b - y.b) * (x.b - y.b) = y.q := by rcases Rat.mul_eq_zero.mp z with z | z <;> grind
      rcases cy with ⟨e1, e2⟩ | ⟨_, _, e1⟩
      · rw [e2] at e
        rcases Rat.mul_eq_zero.mp e with z | z <;> exact absurd z hd
      · exact absurd (sqb_of e) e1
    · exact absurd s1 c
theorem of_int_one {Z : Int} (h1 : -1 < Real.of (Z : Rat)) (h2 : Real.of (Z : Rat) < 1) : Z = 0 := by
  rw [← of_intm1, Real.of_lt, Rat.intCast_lt_intCast] at h1
  rw [← of_int1, Real.of_lt, Rat.intCast_lt_intCast] at h2
  omega
/-- .. else they are apart -/
theorem conj_apart {x y : Rt} (hx : Ok x) (hy : Ok y) (hN : nrm4 (x.b - y.b) x.q y.q ≠ 0) {T W : Real} (hT : 0 < T) (hd1 : -T < Real.of (x.b - y.b) + Real.of (x.s : Rat) * rtq x.q + Real.of (y.s : Rat) * rtq y.q) (hd2 : Real.of (x.b - y.b) + Real.of (x.s : Rat) * rtq x.q + Real.of (y.s : Rat) * rtq y.q < T)
    (hd3 : -T < Real.of (x.b - y.b) - Real.of (x.s : Rat) * rtq x.q - Real.of (y.s : Rat) * rtq y.q) (hd4 : Real.of (x.b - y.b) - Real.of (x.s : Rat) * rtq x.q - Real.of (y.s : Rat) * rtq y.q < T)
    (hd5 : -T < Real.of (x.b - y.b) - Real.of (x.s : Rat) * rtq x.q + Real.of (y.s : Rat) * rtq y.q) (hd6 : Real.of (x.b - y.b) - Real.of (x.s : Rat) * rtq x.q + Real.of (y.s : Rat) * rtq y.q < T)
    (hW : W = Real.of ((((x.b - y.b).den : Int) * (x.b - y.b).den * (x.q.den * y.q.den) * ((x.b - y.b).den * (x.b - y.b).den * (x.q.den * y.q.den)) : Int) : Rat)) :
    1 ≤ (val x - val y) * (T * (T * T) * W) ∨ (val x - val y) * (T * (T * T) * W) ≤ -1 := by
  have su : Real.of (x.s : Rat) * rtq x.q * (Real.of (x.s : Rat) * rtq x.q) = Real.of x.q := by rw [← s_sq hx]; grind
  have sv : Real.of (y.s : Rat) * rtq y.q * (Real.of (y.s : Rat) * rtq y.q) = Real.of y.q := by rw [← s_sq hy]; grind
  have e := nrm4_eq (d := x.b - y.b) su sv
  obtain ⟨Z, hZ⟩ := nrm4_int (x.b - y.b) x.q y.q
  have ev1 : val x - val y = Real.of (x.b - y.b) + Real.of (x.s : Rat) * rtq x.q - Real.of (y.s : Rat) * rtq y.q := by
    unfold val
    rw [Real.of_sub]
    grind
  rw [ev1]
  have hz := congrArg Real.of hZ
  rw [Real.of_mul, ← hW, ← e] at hz
  generalize Real.of (x.b - y.b) = d at *
  generalize Real.of (x.s : Rat) * rtq x.q = u at *
  generalize Real.of (y.s : Rat) * rtq y.q = v at *
  false_or_by_contra
  rename_i hh
  have h1 : (d + u - v) * (T * (T * T) * W) < 1 := by
    rcases Real.tri' ((d + u - v) * (T * (T * T) * W)) 1 with z | z | z
    · exact z
    · exact absurd (.inl (by grind)) hh
    · exact absurd (.inl (by grind)) hh
  have h2 : -1 < (d + u - v) * (T * (T * T) * W) := by
    rcases Real.tri' ((d + u - v) * (T * (T * T) * W)) (-1) with z | z | z
    · exact absurd (.inr (by grind)) hh
    · exact absurd (.inr (by grind)) hh
    · exact z
  obtain ⟨a1, a2⟩ := mul_lt' hd3 hd4 hd5 hd6
  obtain ⟨b1, b2⟩ := mul_lt' hd1 hd2 a1 a2
  have T3 := Real.mul_pos hT (Real.mul_pos hT hT)
  obtain ⟨c1, c2⟩ := mul_lt' (B := 1) h2 h1 b1 b2
  have key : (d + u - v) * (T * (T * T) * W) * ((d + u + v) * ((d - u - v) * (d - u + v))) = Real.of (Z : Rat) * (T * (T * T)) := by
    rw [← hz]
    grind
  rw [key] at c1 c2
  generalize T * (T * T) = t at *
  have zz : Z = 0 := by
    refine of_int_one ?_ ?_
    · rcases Real.tri' (-1) (Real.of (Z : Rat)) with z | z | z
      · exact z
      · rw [← z] at c1; grind
      · have := Real.mul_pos (show 0 < -1 - Real.of (Z : Rat) by grind) T3
        grind
    · rcases Real.tri' (Real.of (Z : Rat)) 1 with z | z | z
      · exact z
      · rw [z] at c2; grind
      · have := Real.mul_pos (show 0 < Real.of (Z : Rat) - 1 by grind) T3
        grind
  rw [zz] at hZ
  have hw : (((((x.b - y.b).den : Int) * (x.b - y.b).den * (x.q.den * y.q.den) * ((x.b - y.b).den * (x.b - y.b).den * (x.q.den * y.q.den)) : Int)) : Rat) ≠ 0 := castne (by
    have p1 : (0 : Int) < (x.b - y.b).den := by have := (x.b - y.b).den_pos; omega
    have p2 : (0 : Int) < x.q.den := by have := x.q.den_pos; omega
    have p3 : (0 : Int) < y.q.den := by have := y.q.den_pos; omega
    have := Int.mul_pos (Int.mul_pos p1 p1) (Int.mul_pos p2 p3)
    have := Int.mul_pos this this
    omega)
  rcases Rat.mul_eq_zero.mp hZ with z | z
  · exact hN z
  · exact hw z
end Rl

namespace Rl
open Lb
theorem ofI_le {i j : Int} : Real.of (i : Rat) ≤ Real.of (j : Rat) ↔ i ≤ j := by rw [Real.of_le, Rat.intCast_le_intCast]
theorem ofI_lt {i j : Int} : Real.of (i : Rat) < Real.of (j : Rat) ↔ i < j := by rw [Real.of_lt, Rat.intCast_lt_intCast]
theorem ofI_add (i j : Int) : Real.of ((i + j : Int) : Rat) = Real.of (i : Rat) + Real.of (j : Rat) := by rw [Rat.intCast_add, Real.of_add]
theorem ofI_neg (i : Int) : Real.of ((-i : Int) : Rat) = - Real.of (i : Rat) := by rw [Rat.intCast_neg, Real.of_neg]
/-- a fraction's size -/
theorem sr_lt {n : Nat} {b : Rat} (h : sr n b) : -Real.of ((2 ^ n : Int) : Rat) < Real.of b ∧ Real.of b < Real.of ((2 ^ n : Int) : Rat) := by
  have e := num_den b
  have d1 : (1 : Rat) ≤ ((b.den : Int) : Rat) := by
    have : ((1 : Int) : Rat) ≤ ((b.den : Int) : Rat) := Rat.intCast_le_intCast.mpr (by have := b.den_pos; omega)
    exact this
  have hn := h.n
  have hp : ((2 : Int) ^ n) = ((2 ^ n : Nat) : Int) := by push_cast; rfl
  have n1 : b.num < 2 ^ n := by
    unfold sm at hn
    rw [hp]; omega
  have n2 : -(2 ^ n : Int) < b.num := by
    unfold sm at hn
    rw [hp]; omega
  have r1 : ((b.num : Int) : Rat) < ((2 ^ n : Int) : Rat) := Rat.intCast_lt_intCast.mpr n1
  have r2 : ((-(2 ^ n : Int) : Int) : Rat) < ((b.num : Int) : Rat) := Rat.intCast_lt_intCast.mpr n2
  rw [Rat.intCast_neg] at r2
  have pp : (0 : Rat) < ((2 ^ n : Int) : Rat) := by grind
  generalize ((2 ^ n : Int) : Rat) = P at *
  generalize ((b.num : Int) : Rat) = N at *
  generalize ((b.den : Int) : Rat) = D at *
  rw [← Real.of_neg, Real.of_lt, Real.of_lt]
  constructor
  · rcases rat_lt_or_le (-P) b with z | z
    · exact z
    · have := Rat.mul_nonneg (show 0 ≤ -P - b by grind) (show 0 ≤ D by grind)
      have := Rat.mul_nonneg (Rat.le_of_lt pp) (show 0 ≤ D - 1 by grind)
      grind
  · rcases rat_lt_or_le b P with z | z
    · exact z
    · have := Rat.mul_nonneg (show 0 ≤ b - P by grind) (show 0 ≤ D by grind)
      have := Rat.mul_nonneg (Rat.le_of_lt pp) (show 0 ≤ D - 1 by grind)
      grind
theorem lt_of_sq {x t : Real} (ht : 0 ≤ t) (hx : 0 ≤ x) (h : x * x < t * t) : x < t := by
  rcases Real.tri' x t with z | z | z
  · exact z
  · rw [z] at h; grind
  · have := mul_nn' (show 0 ≤ x - t by grind) (show 0 ≤ x + t by grind)
    grind
theorem ofI_sq (n : Nat) : Real.of ((2 ^ (n + n) : Int) : Rat) = Real.of ((2 ^ n : Int) : Rat) * Real.of ((2 ^ n : Int) : Rat) := by
  rw [Int.pow_add, of_int_mul]
theorem pow_pos' (n : Nat) : 0 < Real.of ((2 ^ n : Int) : Rat) := int_pos.mpr (Int.pow_pos (by decide))
/-- a square root's size -/
theorem rt_lt {m : Nat} {q : Rat} (h0 : 0 ≤ q) (h : sr (m + m) q) : rtq q < Real.of ((2 ^ m : Int) : Rat) := by
  refine lt_of_sq (by have := pow_pos' m; grind) (rtq_nn q) ?_
  rw [rtq_sq h0, ← ofI_sq]
  exact (sr_lt h).2
/-- .. from below -/
theorem rt_ge {m : Nat} {q : Rat} (h0 : 0 < q) (h : sr (m + m) q) : 1 ≤ rtq q * Real.of ((2 ^ m : Int) : Rat) := by
  have e := rtq_sq (Rat.le_of_lt h0)
  have p := pow_pos' m
  have s := ofI_sq m
  have k : 1 ≤ Real.of q * Real.of ((2 ^ (m + m) : Int) : Rat) := by
    have en := num_den q
    have hd := h.d
    have n1 : 0 < q.num := by
      have a : 0 ≤ q.num := Rat.num_nonneg.mpr (Rat.le_of_lt h0)
      have b : q.num ≠ 0 := fun z => by have := Rat.num_eq_zero.mp z; rw [this] at h0; exact absurd h0 (by decide)
      omega
    have hp : ((2 : Int) ^ (m + m)) = ((2 ^ (m + m) : Nat) : Int) := by push_cast; rfl
    have r1 : ((1 : Int) : Rat) ≤ ((q.num : Int) : Rat) := Rat.intCast_le_intCast.mpr (by omega)
    have r2 : ((q.den : Int) : Rat) ≤ ((2 ^ (m + m) : Int) : Rat) := Rat.intCast_le_intCast.mpr (by
      unfold sm at hd
      rw [hp]; omega)
    rw [← Real.of_mul, ← Real.of_one, Real.of_le]
    have one : ((1 : Int) : Rat) = 1 := rfl
    rw [one] at r1
    have := Rat.mul_nonneg (Rat.le_of_lt h0) (show 0 ≤ ((2 ^ (m + m) : Int) : Rat) - ((q.den : Int) : Rat) by grind)
    grind
  rw [s, ← e] at k
  generalize Real.of ((2 ^ m : Int) : Rat) = t at *
  have r0 := rtq_nn q
  rcases Real.tri' (rtq q * t) 1 with z | z | z
  · have a := mul_nn' r0 (show 0 ≤ t by grind)
    have := Real.mul_pos (show 0 < 1 - rtq q * t by grind) (show 0 < 1 + rtq q * t by grind)
    grind
  · grind
  · grind
theorem s_le {x : Rt} (hx : Ok x) : -(rtq x.q) ≤ Real.of (x.s : Rat) * rtq x.q ∧ Real.of (x.s : Rat) * rtq x.q ≤ rtq x.q := by
  have := rtq_nn x.q
  rcases hx.s with e | e | e
  · rw [e, of_intm1]; exact ⟨by grind, by grind⟩
  · rw [e, of_int0]; exact ⟨by grind, by grind⟩
  · rw [e, of_int1]; exact ⟨by grind, by grind⟩
theorem up_to {z K L : Real} (hK : 0 < K) (hL : K ≤ L) (h : 1 ≤ z * K ∨ z * K ≤ -1) : 1 ≤ z * L ∨ z * L ≤ -1 := by
  rcases h with h | h
  · left
    have z0 : 0 < z := by
      rcases Real.tri' z 0 with y | y | y
      · have := Real.mul_pos (show 0 < -z by grind) hK; grind
      · rw [y] at h; grind
      · exact y
    have := mul_nn' (show 0 ≤ z by grind) (show 0 ≤ L - K by grind)
    grind
  · right
    have z0 : z < 0 := by
      rcases Real.tri' z 0 with y | y | y
      · exact y
      · rw [y] at h; grind
      · have := Real.mul_pos y hK; grind
    have := mul_nn' (show 0 ≤ -z by grind) (show 0 ≤ L - K by grind)
    grind
theorem apart {x y : Rt} (hx : Ok x) (hy : Ok y) (cx : Cn x) (cy : Cn y) (xb : sr 120 x.b) (yb : sr 120 y.b) (xq : sr 42 x.q) (yq : sr 42 y.q) (hne : x ≠ y) :
    1 ≤ (val x - val y) * Real.of ((2 ^ 1600 : Int) : Rat) ∨ (val x - val y) * Real.of ((2 ^ 1600 : Int) : Rat) ≤ -1 := by
  by_cases hN : nrm4 (x.b - y.b) x.q y.q = 0
  · rcases nrm4_zero hx hy cx cy hN with e | ⟨e1, e2, e3, e4⟩
    · exact absurd e hne
    · have r1 := rt_ge (m := 21) (hx.p e3) xq
      have rn := rtq_nn x.q
      have pp := pow_pos' 21
      refine up_to (K := Real.of ((2 ^ 21 : Int) : Rat)) pp (ofI_le.mpr (by decide +kernel)) ?_
      have ev1 : val x - val y = 2 * (Real.of (x.s : Rat) * rtq x.q) := by
        have : Real.of ((-y.s : Int) : Rat) = - Real.of (y.s : Rat) := ofI_neg _
        rw [← e4] at this
        unfold val
        rw [e1, e2] at *
        grind
      rw [ev1]
      generalize Real.of ((2 ^ 21 : Int) : Rat) = t at *
      rcases hx.s with e | e | e
      · rw [e, of_intm1]
        right; grind
      · exact absurd e e3
      · rw [e, of_int1]
        left; grind
  · have d2 : sr 241 (x.b - y.b) := by rw [Rat.sub_eq_add_neg]; exact (xb.add yb.neg).mono (by decide)
    obtain ⟨b1, b2⟩ := sr_lt xb
    obtain ⟨b3, b4⟩ := sr_lt yb
    have u := s_le hx
    have v := s_le hy
    have ru := rt_lt (m := 21) hx.q0 xq
    have rv := rt_lt (m := 21) hy.q0 yq
    have big : Real.of ((2 ^ 120 : Int) : Rat) + Real.of ((2 ^ 120 : Int) : Rat) + Real.of ((2 ^ 21 : Int) : Rat) + Real.of ((2 ^ 21 : Int) : Rat) ≤ Real.of ((2 ^ 123 : Int) : Rat) := by
      rw [← ofI_add, ← ofI_add, ← ofI_add, ofI_le]
      decide +kernel
    have K := conj_apart hx hy hN (T := Real.of ((2 ^ 123 : Int) : Rat)) (pow_pos' 123) (by rw [Real.of_sub]; grind) (by rw [Real.of_sub]; grind) (by rw [Real.of_sub]; grind) (by rw [Real.of_sub]; grind) (by rw [Real.of_sub]; grind) (by rw [Real.of_sub]; grind) rfl
    rw [← of_int_mul, ← of_int_mul, ← of_int_mul] at K
    have p1 : (0 : Int) < (x.b - y.b).den := by have := (x.b - y.b).den_pos; omega
    have p2 : (0 : Int) < x.q.den := by have := x.q.den_pos; omega
    have p3 : (0 : Int) < y.q.den := by have := y.q.den_pos; omega
    have pw := Int.mul_pos (Int.mul_pos p1 p1) (Int.mul_pos p2 p3)
    have pz := Int.mul_pos pw pw
    have dd := d2.d
    have sz := (((dd.mul dd).mul (xq.d.mul yq.d)).mul ((dd.mul dd).mul (xq.d.mul yq.d)))
    refine up_to (int_pos.mpr (Int.mul_pos (by decide) pz)) (ofI_le.mpr ?_) K
    have lt : ((x.b - y.b).den : Int) * (x.b - y.b).den * (x.q.den * y.q.den) * ((x.b - y.b).den * (x.b - y.b).den * (x.q.den * y.q.den)) ≤ 2 ^ 1132 := by
      have := sz.mono (show _ ≤ 1132 by decide)
      unfold sm at this
      have hp : ((2 : Int) ^ 1132) = ((2 ^ 1132 : Nat) : Int) := by push_cast; rfl
      rw [hp]
      omega
    have := Int.mul_le_mul_of_nonneg_left lt (show (0 : Int) ≤ 2 ^ 123 * (2 ^ 123 * 2 ^ 123) by decide +kernel)
    refine Int.le_trans this ?_
    decide +kernel
end Rl

namespace Rl
open Lb
theorem base_between (b : Rat) (w F : Int) (p : (0 : Int) < b.den) (f1 : F * (b.den : Int) ≤ b.num * w) (f2 : b.num * w < (F + 1) * (b.den : Int)) : Real.of (F : Rat) ≤ Real.of b * Real.of (w : Rat) ∧ Real.of b * Real.of (w : Rat) < Real.of (F : Rat) + 1 := by
  have e := num_den b
  have g1 : ((F * (b.den : Int) : Int) : Rat) ≤ ((b.num * w : Int) : Rat) := Rat.intCast_le_intCast.mpr f1
  have g2 : ((b.num * w : Int) : Rat) < (((F + 1) * (b.den : Int) : Int) : Rat) := Rat.intCast_lt_intCast.mpr f2
  have dp : (0 : Rat) < ((b.den : Int) : Rat) := Rat.intCast_pos.mpr p
  have one : ((1 : Int) : Rat) = 1 := rfl
  simp only [Rat.intCast_mul, Rat.intCast_add, ← e, one] at g1 g2
  rw [← Real.of_mul, ← Real.of_one, ← Real.of_add, Real.of_le, Real.of_lt]
  generalize ((b.den : Int) : Rat) = D at *
  generalize ((F : Int) : Rat) = f at *
  generalize ((w : Int) : Rat) = v at *
  constructor
  · rcases rat_lt_or_le (b * v) f with z | z
    · have := Rat.mul_pos (show 0 < f - b * v by grind) dp
      grind
    · exact z
  · rcases rat_lt_or_le (b * v) (f + 1) with z | z
    · exact z
    · have := Rat.mul_nonneg (show 0 ≤ b * v - (f + 1) by grind) (Rat.le_of_lt dp)
      grind
theorem root_between {q : Rat} {w M L : Int} (h0 : 0 ≤ q) (w0 : 0 < w) (p : (0 : Int) < q.den) (G1 : M * M ≤ q.num * q.den * w * w) (G2 : q.num * q.den * w * w < (M + 1) * (M + 1)) (M0 : 0 ≤ M) (d1 : L * (q.den : Int) ≤ M) (d2 : M < (L + 1) * (q.den : Int)) : Real.of (L : Rat) ≤ rtq q * Real.of (w : Rat) ∧ rtq q * Real.of (w : Rat) < Real.of (L : Rat) + 1 := by
  have e := num_den q
  have rn := rtq_nn q
  have rs := rtq_sq h0
  have wp : 0 < Real.of (w : Rat) := int_pos.mpr w0
  have qp : 0 < Real.of ((q.den : Int) : Rat) := int_pos.mpr p
  have eI : Real.of ((q.num * q.den * w * w : Int) : Rat) = (rtq q * Real.of (w : Rat) * Real.of ((q.den : Int) : Rat)) * (rtq q * Real.of (w : Rat) * Real.of ((q.den : Int) : Rat)) := by
    rw [of_int_mul, of_int_mul, of_int_mul, ← e, Real.of_mul]
    have : (rtq q * Real.of (w : Rat) * Real.of ((q.den : Int) : Rat)) * (rtq q * Real.of (w : Rat) * Real.of ((q.den : Int) : Rat)) = (rtq q * rtq q) * (Real.of (w : Rat) * Real.of (w : Rat) * (Real.of ((q.den : Int) : Rat) * Real.of ((q.den : Int) : Rat))) := by grind
    rw [this, rs]
    grind
  have a1 := ofI_le.mpr G1
  have a2 := ofI_lt.mpr G2
  have a3 := ofI_le.mpr d1
  have a4 := ofI_le.mpr (show M + 1 ≤ (L + 1) * (q.den : Int) by omega)
  have a5 : 0 ≤ Real.of (M : Rat) := of_nn (Rat.intCast_nonneg.mpr M0)
  rw [eI] at a1 a2
  simp only [of_int_mul, ofI_add, of_int1] at a1 a2 a3 a4
  have X0 : 0 ≤ rtq q * Real.of (w : Rat) * Real.of ((q.den : Int) : Rat) := mul_nn' (mul_nn' rn (by grind)) (by grind)
  generalize rtq q * Real.of (w : Rat) = x at *
  generalize Real.of ((q.den : Int) : Rat) = D at *
  generalize Real.of (M : Rat) = m at *
  generalize Real.of (L : Rat) = l at *
  have b1 : m ≤ x * D := by
    rcases Real.tri' (x * D) m with z | z | z
    · have := Real.mul_pos (show 0 < m - x * D by grind) (show 0 < m + x * D by grind)
      grind
    · grind
    · grind
  have b2 : x * D < m + 1 := lt_of_sq (by grind) X0 a2
  constructor
  · rcases Real.tri' x l with z | z | z
    · have := Real.mul_pos (show 0 < l - x by grind) qp
      grind
    · grind
    · grind
  · rcases Real.tri' x (l + 1) with z | z | z
    · exact z
    · rw [z] at b2; grind
    · have := Real.mul_pos (show 0 < x - (l + 1) by grind) qp
      grind
end Rl

namespace Lr
open PySem PySem.Spec PyProof.Rows L2 Bl Lb Rl
local macro_rules | `(tactic| walk_at "bl0") => `(tactic| (with_reducible (first
  | (refine Go.gVr ?_; first | refine Go.vr0 ?_ | refine Go.vr1 ?_ | refine Go.vr2 ?_ | refine Go.vr3 ?_ | refine Go.vr4 ?_ | refine Go.vr5 ?_ | refine Go.vr6 ?_ | refine Go.vr7 ?_ | refine Go.vr8 ?_ | refine Go.vr9 ?_ | refine Go.vr10 ?_ | refine Go.vr11 ?_ | refine Go.vr12 ?_ | refine Go.vr13 ?_ | refine Go.vr14 ?_ | refine Go.vr15 ?_ | refine Go.vr16 ?_ | refine Go.vr17 ?_ | refine Go.vr18 ?_ | refine Go.vr19 ?_ | refine Go.vr20 ?_ | refine Go.vr21 ?_ | refine Go.vr22 ?_ | refine Go.vr23 ?_)
  | refine Go.seq ?_
  | refine Go.nx' ?_
  | refine Go.ret ?_
  | refine Go.if' ?_
  | refine Go.asg ?_
  | refine Go.par ?_
  | refine Go.drop ?_
  | refine Go.brk ?_
  | refine Go.cnt ?_
  | refine Go.raise ?_
  | refine Go.thru ?_
  | refine Go.tryAs ?_
  | refine Go.for' ?_
  | refine Go.sub ?_
  | refine Go.retN ?_
  | refine Go.par_cons ?_
  | refine Go.par_nil ?_
  | refine Go.cn' ?_
  | refine Go.two ?_
  | refine Go.nil ?_
  | refine Go.cons ?_
  | refine Go.tup ?_
  | refine Go.lst ?_
  | refine Go.lstR ?_
  | refine Go.tbl' ?_
  | refine Go.tblK' ?_
  | refine Go.ttr' ?_
  | refine Go.truB ?_
  | refine Go.truI ?_
  | refine Go.truN ?_
  | refine Go.and' ?_
  | refine Go.or' ?_
  | refine Go.not' ?_
  | refine Go.vOf' ?_
  | refine Go.vNot' ?_
  | refine Go.eIf' ?_
  | refine Go.ifT ?_
  | refine Go.ifF ?_
  | refine Go.ifN ?_
  | refine Go.add ?_
  | refine Go.sub' ?_
  | refine Go.lt ?_
  | refine Go.le ?_
  | refine Go.gt ?_
  | refine Go.ge ?_
  | refine Go.eqI ?_
  | refine Go.neI ?_
  | refine Go.is' ?_
  | refine Go.isNot' ?_
  | refine Go.chain ?_
  | refine Go.dB' ?_
  | refine Go.neg ?_
  | refine Go.neg' ?_
  | refine Go.abs' ?_
  | refine Go.lenT ?_
  | refine Go.lenL ?_
  | refine Go.max' ?_
  | refine Go.min' ?_
  | refine Go.intI ?_
  | refine Go.intB ?_
  | refine Go.tupL ?_
  | refine Go.tupT ?_
  | refine Go.isi ?_
  | refine Go.call ?_
  | refine Go.iVal' ?_
  | refine Go.iValT ?_
  | refine Go.iValL ?_
  | refine Go.r1 ?_
  | refine Go.r2 ?_
  | refine Go.star ?_
  | refine Go.l_cons ?_
  | refine Go.l_nil ?_
  | refine Go.enum' ?_
  | refine Go.rev' ?_
  | refine Go.zip' ?_
  | refine Go.wipe_nil ?_
  | refine Go.wipe_cons ?_
  | refine Go.iadd ?_
  | refine Go.sl ?_
  | refine Go.oN ?_
  | refine Go.oS ?_
  | refine Go.osK' ?_
  | refine Go.getL ?_
  | refine Go.lc ?_
  | refine Go.lcR ?_
  | refine Go.lg_nil ?_
  | refine Go.lg_cons ?_
  | refine Go.yes ?_
  | refine Go.for_nil ?_
  | refine Go.for_cons ?_
  | refine Go.revT ?_
  | refine Go.revL ?_
  | refine Go.zipT ?_
  | refine Go.zipL ?_
  | refine Go.tupK' rfl ?_
  | refine Go.lstK' rfl ?_
  | refine Go.callK' rfl rfl ?_
  | refine Go.lcL rfl ?_
  | refine Go.getLL' rfl ?_
  | refine Go.addT rfl ?_
  | (refine Go.gAsg ?_; first | refine Go.set0 ?_ | refine Go.set1 ?_ | refine Go.set2 ?_ | refine Go.set3 ?_ | refine Go.set4 ?_ | refine Go.set5 ?_ | refine Go.set6 ?_ | refine Go.set7 ?_ | refine Go.set8 ?_ | refine Go.set9 ?_ | refine Go.set10 ?_ | refine Go.set11 ?_ | refine Go.set12 ?_ | refine Go.set13 ?_ | refine Go.set14 ?_ | refine Go.set15 ?_ | refine Go.set16 ?_ | refine Go.set17 ?_ | refine Go.set18 ?_ | refine Go.set19 ?_ | refine Go.set20 ?_ | refine Go.set21 ?_ | refine Go.set22 ?_ | refine Go.set23 ?_ | refine Go.tp_cons ?_ | refine Go.tp_nil ?_)
  | (refine Go.gIxT ?_; first | refine Go.ixT0 ?_ | refine Go.ixT1 ?_ | refine Go.ixT2 ?_ | refine Go.ixT3 ?_ | refine Go.ixT4 ?_ | refine Go.ixT5 ?_ | refine Go.ixT6 ?_ | refine Go.ixT7 ?_)
  | (refine Go.gIxL ?_; first | refine Go.ixL0 ?_ | refine Go.ixL1 ?_ | refine Go.ixL2 ?_ | refine Go.ixL3 ?_ | refine Go.ixL4 ?_ | refine Go.ixL5 ?_ | refine Go.ixL6 ?_ | refine Go.ixL7 ?_)
  | (refine Go.gAug ?_; first | refine Go.aug0 ?_ | refine Go.aug1 ?_ | refine Go.aug2 ?_ | refine Go.aug3 ?_ | refine Go.aug4 ?_ | refine Go.aug5 ?_ | refine Go.aug6 ?_ | refine Go.aug7 ?_ | refine Go.aug8 ?_ | refine Go.aug9 ?_ | refine Go.aug10 ?_ | refine Go.aug11 ?_ | refine Go.aug12 ?_ | refine Go.aug13 ?_ | refine Go.aug14 ?_ | refine Go.aug15 ?_ | refine Go.aug16 ?_ | refine Go.aug17 ?_ | refine Go.aug18 ?_ | refine Go.aug19 ?_ | refine Go.aug20 ?_ | refine Go.aug21 ?_ | refine Go.aug22 ?_ | refine Go.aug23 ?_)
  | (refine Go.gStar ?_; first | refine Go.startup0 ?_ | refine Go.starlst0 ?_ | refine Go.startup1 ?_ | refine Go.starlst1 ?_ | refine Go.startup2 ?_ | refine Go.starlst2 ?_ | refine Go.startup3 ?_ | refine Go.starlst3 ?_ | refine Go.startup4 ?_ | refine Go.starlst4 ?_ | refine Go.startup_2 ?_ | refine Go.starlst_2 ?_ | refine Go.startup_3 ?_ | refine Go.starlst_3 ?_ | refine Go.startup_4 ?_ | refine Go.starlst_4 ?_)
  | refine Go.slfT1 ?_ | refine Go.sltT1 ?_ | refine Go.slfL1 ?_ | refine Go.sltL1 ?_ | refine Go.slfT2 ?_ | refine Go.sltT2 ?_ | refine Go.slfL2 ?_ | refine Go.sltL2 ?_ | refine Go.slfT3 ?_ | refine Go.sltT3 ?_ | refine Go.slfL3 ?_ | refine Go.sltL3 ?_ | refine Go.slfT4 ?_ | refine Go.sltT4 ?_ | refine Go.slfL4 ?_ | refine Go.sltL4 ?_
  | (refine Go.gUns ?_; first | refine Go.uns0 ?_ | refine Go.uns1 ?_ | refine Go.uns2 ?_ | refine Go.uns3 ?_ | refine Go.uns4 ?_ | refine Go.uns5 ?_ | refine Go.uns6 ?_ | refine Go.uns7 ?_ | refine Go.uns8 ?_ | refine Go.uns9 ?_ | refine Go.uns10 ?_ | refine Go.uns11 ?_ | refine Go.uns12 ?_ | refine Go.uns13 ?_ | refine Go.uns14 ?_ | refine Go.uns15 ?_ | refine Go.uns16 ?_ | refine Go.uns17 ?_ | refine Go.uns18 ?_ | refine Go.uns19 ?_ | refine Go.uns20 ?_ | refine Go.uns21 ?_ | refine Go.uns22 ?_ | refine Go.uns23 ?_)
  | refine Go.entup0 ?_ | refine Go.enlst0 ?_ | refine Go.entup1 ?_ | refine Go.enlst1 ?_ | refine Go.entup2 ?_ | refine Go.enlst2 ?_ | refine Go.entup3 ?_ | refine Go.enlst3 ?_ | refine Go.entup4 ?_ | refine Go.enlst4 ?_ | refine Go.entup5 ?_ | refine Go.enlst5 ?_ | refine Go.entup6 ?_ | refine Go.enlst6 ?_)))
local macro_rules | `(tactic| walk_at "bl1") => `(tactic| first | ((with_reducible refine Go.gEqS ?_); (first | refine Go.eqS (b := true) ⟨rfl, by decide +kernel⟩ ⟨rfl, by decide +kernel⟩ rfl ?_ | refine Go.eqS (b := false) ⟨rfl, by decide +kernel⟩ ⟨rfl, by decide +kernel⟩ rfl ?_)) | ((with_reducible refine Go.gNeS ?_); (first | refine Go.neS (b := true) ⟨rfl, by decide +kernel⟩ ⟨rfl, by decide +kernel⟩ rfl ?_ | refine Go.neS (b := false) ⟨rfl, by decide +kernel⟩ ⟨rfl, by decide +kernel⟩ rfl ?_)) | walk_at "bl0" | ((with_reducible refine Go.gAll ?_); (refine Go.allB (by rfl) ?_)) | ((with_reducible refine Go.gIxT ?_); (refine Go.ixT (by rfl) ?_)) | ((with_reducible refine Go.gIxL ?_); (refine Go.ixL (by rfl) ?_)))
local macro_rules | `(tactic| walk_at "bl") => `(tactic| (repeat walk_at "bl1"))
local macro_rules | `(tactic| walk_at "bl0") => `(tactic| (with_reducible (first | refine Go.zipS' ?_ | refine Go.zipR' ?_ | refine Go.seqT ?_ | refine Go.seqL ?_ | refine Go.zipST rfl ?_ | refine Go.zipSL rfl ?_ | refine Go.for_zc ?_ | refine Go.for_zn ?_ | refine Go.lg_zc ?_ | refine Go.lg_zn ?_)))
theorem bounds_spec {x : Rt} {wy : Int} {n m w : Nat} {S : Sto} {Q : DK} {E : EK} (hx : Ok x) (hb : sr n x.b) (hq : sr m x.q) (h0 : 0 < wy) (hw : sm w wy) (hn : n + w ≤ 8900) (hm : 2 * m + 2 * w ≤ 17000) (k : ∀ lo hi : Int, Real.of (lo : Rat) < val x * Real.of (wy : Rat) → val x * Real.of (wy : Rat) < Real.of (hi : Rat) → hi ≤ lo + 4 → Q (.tup [.int lo, .int hi]) S) : m_l_bounds [rt x, .int wy] S Q E := by
  refine e_l_bounds ?_
  unfold t_l_bounds
  have hs : sm 2 x.s := by have := hx.s; unfold sm; omega
  have qn := Rat.num_nonneg.mpr hx.q0
  have i1 := hq.n.mul hq.d
  have i2 := i1.mul hw
  have i3 := i2.mul hw
  have p1 : (0 : Int) < x.q.den := by have := x.q.den_pos; omega
  have hI : 0 ≤ x.q.num * x.q.den * wy * wy := Int.mul_nonneg (Int.mul_nonneg (Int.mul_nonneg qn (by omega)) (by omega)) (by omega)
  walk_at "bl"
  refine Go.mul (hq.n.cmul hq.d (by omega)) ?_
  walk_at "bl"
  refine Go.mul (i1.cmul hw (by omega)) ?_
  walk_at "bl"
  refine Go.mul (i2.cmul hw (by omega)) ?_
  walk_at "bl"
  refine root_of_spec hI i3 (by omega) ?_
  walk_at "bl"
  refine Go.div (hq.d.cdiv (by omega) (by omega)) ?_
  obtain ⟨g1, g2⟩ := isq_spec (x.q.num * x.q.den * wy * wy).toNat
  have is := isq_sm hI i3
  obtain ⟨M, hM⟩ : ∃ M : Int, M = (isq (x.q.num * x.q.den * wy * wy).toNat : Int) := ⟨_, rfl⟩
  have G1 : M * M ≤ x.q.num * x.q.den * wy * wy := by
    rw [hM]
    have : ((isq (x.q.num * x.q.den * wy * wy).toNat * isq (x.q.num * x.q.den * wy * wy).toNat : Nat) : Int) ≤ ((x.q.num * x.q.den * wy * wy).toNat : Int) := by exact_mod_cast g1
    rw [Int.natCast_mul] at this
    omega
  have G2 : x.q.num * x.q.den * wy * wy < (M + 1) * (M + 1) := by
    rw [hM]
    have : ((x.q.num * x.q.den * wy * wy).toNat : Int) < ((isq (x.q.num * x.q.den * wy * wy).toNat : Int) + 1) * ((isq (x.q.num * x.q.den * wy * wy).toNat : Int) + 1) := by exact_mod_cast g2
    omega
  have M0 : 0 ≤ M := by omega
  rw [← hM] at is ⊢
  clear g1 g2
  have d1 := Int.ediv_mul_le M (show (x.q.den : Int) ≠ 0 by omega)
  have d2 := Int.lt_ediv_add_one_mul_self M p1
  have d0 : 0 ≤ M / (x.q.den : Int) := Int.ediv_nonneg M0 (by omega)
  have dl : M / (x.q.den : Int) ≤ M := Int.ediv_le_self _ M0
  rw [Int.fdiv_eq_ediv_of_nonneg _ (by omega)]
  obtain ⟨L, hL⟩ : ∃ L : Int, L = M / (x.q.den : Int) := ⟨_, rfl⟩
  rw [← hL] at d1 d2 d0 dl ⊢
  have sL : sm (m + m + w + w) L := by unfold sm at is ⊢; omega
  have sL2 : sm (m + m + w + w + 2) (L + 2) := by
    unfold sm at sL ⊢
    rw [Nat.pow_succ, Nat.pow_succ]
    have := Nat.pow_pos (n := m + m + w + w) (show 0 < 2 by decide)
    omega
  walk_at "bl"
  refine Go.mul (hs.cmul sL (by omega)) ?_
  walk_at "bl"
  refine Go.mul (hs.cmul sL2 (by omega)) ?_
  walk_at "bl"
  refine ⟨(by decide : 2 < 64), fun ns hp hsorted => ?_⟩
  obtain ⟨e0, e1, rfl⟩ : ∃ e0 e1, ns = [e0, e1] := by
    have hl := hp.length_eq
    match ns, hl with
    | [a, b], _ => exact ⟨a, b, rfl⟩
  have le : e0 ≤ e1 := by
    rw [List.pairwise_cons] at hsorted
    exact hsorted.1 e1 (by simp)
  have m1 : ∀ z, z ∈ [e0, e1] ↔ z ∈ [x.s * L, x.s * (L + 2)] := fun z => hp.mem_iff
  simp only [List.mem_cons, List.not_mem_nil, or_false] at m1
  have k0 := (m1 e0).mp (.inl rfl)
  have k1 := (m1 e1).mp (.inr rfl)
  have k2 := (m1 (x.s * L)).mpr (.inl rfl)
  have k3 := (m1 (x.s * (L + 2))).mpr (.inr rfl)
  walk_at "bl"
  refine Go.mul (hb.n.cmul hw (by omega)) ?_
  walk_at "bl"
  refine Go.div (hb.d.cdiv (by have := x.b.den_pos; omega) (by omega)) ?_
  walk_at "bl"
  refine Go.mul (hb.n.cmul hw (by omega)) ?_
  walk_at "bl"
  refine Go.div (hb.d.cdiv (by have := x.b.den_pos; omega) (by omega)) ?_
  walk_at "bl"
  have pb : (0 : Int) < x.b.den := by have := x.b.den_pos; omega
  rw [Int.fdiv_eq_ediv_of_nonneg _ (by omega)]
  have f1 := Int.ediv_mul_le (x.b.num * wy) (show (x.b.den : Int) ≠ 0 by omega)
  have f2 := Int.lt_ediv_add_one_mul_self (x.b.num * wy) pb
  generalize x.b.num * wy / (x.b.den : Int) = F at f1 f2 ⊢
  obtain ⟨c1, c2⟩ := Rl.base_between x.b wy F pb f1 f2
  obtain ⟨c3, c4⟩ := Rl.root_between hx.q0 h0 p1 G1 G2 M0 d1 d2
  have ee : (x.s = -1 ∧ e0 = -(L + 2) ∧ e1 = -L) ∨ (x.s = 0 ∧ e0 = 0 ∧ e1 = 0) ∨ (x.s = 1 ∧ e0 = L ∧ e1 = L + 2) := by
    rcases hx.s with e | e | e <;> rw [e] at k0 k1 k2 k3 <;> omega
  have vv : val x * Real.of (wy : Rat) = Real.of x.b * Real.of (wy : Rat) + Real.of (x.s : Rat) * (rtq x.q * Real.of (wy : Rat)) := by
    unfold val; grind
  have two : Real.of ((2 : Int) : Rat) = 2 := rfl
  refine k _ _ ?_ ?_ ?_
  · rw [vv, of_int_sub, ofI_add, of_int1]
    rcases ee with ⟨e, a, b⟩ | ⟨e, a, b⟩ | ⟨e, a, b⟩ <;> rw [e, a]
    · rw [of_intm1, ofI_neg, ofI_add, two]; grind
    · rw [of_int0]; grind
    · rw [of_int1]; grind
  · rw [vv, ofI_add, ofI_add, of_int1]
    rcases ee with ⟨e, a, b⟩ | ⟨e, a, b⟩ | ⟨e, a, b⟩ <;> rw [e, b]
    · rw [of_intm1, ofI_neg]; grind
    · rw [of_int0]; grind
    · rw [ofI_add, two, of_int1]; grind
  · rcases ee with ⟨e, a, b⟩ | ⟨e, a, b⟩ | ⟨e, a, b⟩ <;> omega
end Lr

namespace Lr
open PySem PySem.Spec PyProof.Rows L2 Bl Lb Rl
local macro_rules | `(tactic| walk_at "bl0") => `(tactic| (with_reducible (first
  | (refine Go.gVr ?_; first | refine Go.vr0 ?_ | refine Go.vr1 ?_ | refine Go.vr2 ?_ | refine Go.vr3 ?_ | refine Go.vr4 ?_ | refine Go.vr5 ?_ | refine Go.vr6 ?_ | refine Go.vr7 ?_ | refine Go.vr8 ?_ | refine Go.vr9 ?_ | refine Go.vr10 ?_ | refine Go.vr11 ?_ | refine Go.vr12 ?_ | refine Go.vr13 ?_ | refine Go.vr14 ?_ | refine Go.vr15 ?_ | refine Go.vr16 ?_ | refine Go.vr17 ?_ | refine Go.vr18 ?_ | refine Go.vr19 ?_ | refine Go.vr20 ?_ | refine Go.vr21 ?_ | refine Go.vr22 ?_ | refine Go.vr23 ?_)
  | refine Go.seq ?_
  | refine Go.nx' ?_
  | refine Go.ret ?_
  | refine Go.if' ?_
  | refine Go.asg ?_
  | refine Go.par ?_
  | refine Go.drop ?_
  | refine Go.brk ?_
  | refine Go.cnt ?_
  | refine Go.raise ?_
  | refine Go.thru ?_
  | refine Go.tryAs ?_
  | refine Go.for' ?_
  | refine Go.sub ?_
  | refine Go.retN ?_
  | refine Go.par_cons ?_
  | refine Go.par_nil ?_
  | refine Go.cn' ?_
  | refine Go.two ?_
  | refine Go.nil ?_
  | refine Go.cons ?_
  | refine Go.tup ?_
  | refine Go.lst ?_
  | refine Go.lstR ?_
  | refine Go.tbl' ?_
  | refine Go.tblK' ?_
  | refine Go.ttr' ?_
  | refine Go.truB ?_
  | refine Go.truI ?_
  | refine Go.truN ?_
  | refine Go.and' ?_
  | refine Go.or' ?_
  | refine Go.not' ?_
  | refine Go.vOf' ?_
  | refine Go.vNot' ?_
  | refine Go.eIf' ?_
  | refine Go.ifT ?_
  | refine Go.ifF ?_
  | refine Go.ifN ?_
  | refine Go.add ?_
  | refine Go.sub' ?_
  | refine Go.lt ?_
  | refine Go.le ?_
  | refine Go.gt ?_
  | refine Go.ge ?_
  | refine Go.eqI ?_
  | refine Go.neI ?_
  | refine Go.is' ?_
  | refine Go.isNot' ?_
  | refine Go.chain ?_
  | refine Go.dB' ?_
  | refine Go.neg ?_
  | refine Go.neg' ?_
  | refine Go.abs' ?_
  | refine Go.lenT ?_
  | refine Go.lenL ?_
  | refine Go.max' ?_
  | refine Go.min' ?_
  | refine Go.intI ?_
  | refine Go.intB ?_
  | refine Go.tupL ?_
  | refine Go.tupT ?_
  | refine Go.isi ?_
  | refine Go.call ?_
  | refine Go.iVal' ?_
  | refine Go.iValT ?_
  | refine Go.iValL ?_
  | refine Go.r1 ?_
  | refine Go.r2 ?_
  | refine Go.star ?_
  | refine Go.l_cons ?_
  | refine Go.l_nil ?_
  | refine Go.enum' ?_
  | refine Go.rev' ?_
  | refine Go.zip' ?_
  | refine Go.wipe_nil ?_
  | refine Go.wipe_cons ?_
  | refine Go.iadd ?_
  | refine Go.sl ?_
  | refine Go.oN ?_
  | refine Go.oS ?_
  | refine Go.osK' ?_
  | refine Go.getL ?_
  | refine Go.lc ?_
  | refine Go.lcR ?_
  | refine Go.lg_nil ?_
  | refine Go.lg_cons ?_
  | refine Go.yes ?_
  | refine Go.for_nil ?_
  | refine Go.for_cons ?_
  | refine Go.revT ?_
  | refine Go.revL ?_
  | refine Go.zipT ?_
  | refine Go.zipL ?_
  | refine Go.tupK' rfl ?_
  | refine Go.lstK' rfl ?_
  | refine Go.callK' rfl rfl ?_
  | refine Go.lcL rfl ?_
  | refine Go.getLL' rfl ?_
  | refine Go.addT rfl ?_
  | (refine Go.gAsg ?_; first | refine Go.set0 ?_ | refine Go.set1 ?_ | refine Go.set2 ?_ | refine Go.set3 ?_ | refine Go.set4 ?_ | refine Go.set5 ?_ | refine Go.set6 ?_ | refine Go.set7 ?_ | refine Go.set8 ?_ | refine Go.set9 ?_ | refine Go.set10 ?_ | refine Go.set11 ?_ | refine Go.set12 ?_ | refine Go.set13 ?_ | refine Go.set14 ?_ | refine Go.set15 ?_ | refine Go.set16 ?_ | refine Go.set17 ?_ | refine Go.set18 ?_ | refine Go.set19 ?_ | refine Go.set20 ?_ | refine Go.set21 ?_ | refine Go.set22 ?_ | refine Go.set23 ?_ | refine Go.tp_cons ?_ | refine Go.tp_nil ?_)
  | (refine Go.gIxT ?_; first | refine Go.ixT0 ?_ | refine Go.ixT1 ?_ | refine Go.ixT2 ?_ | refine Go.ixT3 ?_ | refine Go.ixT4 ?_ | refine Go.ixT5 ?_ | refine Go.ixT6 ?_ | refine Go.ixT7 ?_)
  | (refine Go.gIxL ?_; first | refine Go.ixL0 ?_ | refine Go.ixL1 ?_ | refine Go.ixL2 ?_ | refine Go.ixL3 ?_ | refine Go.ixL4 ?_ | refine Go.ixL5 ?_ | refine Go.ixL6 ?_ | refine Go.ixL7 ?_)
  | (refine Go.gAug ?_; first | refine Go.aug0 ?_ | refine Go.aug1 ?_ | refine Go.aug2 ?_ | refine Go.aug3 ?_ | refine Go.aug4 ?_ | refine Go.aug5 ?_ | refine Go.aug6 ?_ | refine Go.aug7 ?_ | refine Go.aug8 ?_ | refine Go.aug9 ?_ | refine Go.aug10 ?_ | refine Go.aug11 ?_ | refine Go.aug12 ?_ | refine Go.aug13 ?_ | refine Go.aug14 ?_ | refine Go.aug15 ?_ | refine Go.aug16 ?_ | refine Go.aug17 ?_ | refine Go.aug18 ?_ | refine Go.aug19 ?_ | refine Go.aug20 ?_ | refine Go.aug21 ?_ | refine Go.aug22 ?_ | refine Go.aug23 ?_)
  | (refine Go.gStar ?_; first | refine Go.startup0 ?_ | refine Go.starlst0 ?_ | refine Go.startup1 ?_ | refine Go.starlst1 ?_ | refine Go.startup2 ?_ | refine Go.starlst2 ?_ | refine Go.startup3 ?_ | refine Go.starlst3 ?_ | refine Go.startup4 ?_ | refine Go.starlst4 ?_ | refine Go.startup_2 ?_ | refine Go.starlst_2 ?_ | refine Go.startup_3 ?_ | refine Go.starlst_3 ?_ | refine Go.startup_4 ?_ | refine Go.starlst_4 ?_)
  | refine Go.slfT1 ?_ | refine Go.sltT1 ?_ | refine Go.slfL1 ?_ | refine Go.sltL1 ?_ | refine Go.slfT2 ?_ | refine Go.sltT2 ?_ | refine Go.slfL2 ?_ | refine Go.sltL2 ?_ | refine Go.slfT3 ?_ | refine Go.sltT3 ?_ | refine Go.slfL3 ?_ | refine Go.sltL3 ?_ | refine Go.slfT4 ?_ | refine Go.sltT4 ?_ | refine Go.slfL4 ?_ | refine Go.sltL4 ?_
  | (refine Go.gUns ?_; first | refine Go.uns0 ?_ | refine Go.uns1 ?_ | refine Go.uns2 ?_ | refine Go.uns3 ?_ | refine Go.uns4 ?_ | refine Go.uns5 ?_ | refine Go.uns6 ?_ | refine Go.uns7 ?_ | refine Go.uns8 ?_ | refine Go.uns9 ?_ | refine Go.uns10 ?_ | refine Go.uns11 ?_ | refine Go.uns12 ?_ | refine Go.uns13 ?_ | refine Go.uns14 ?_ | refine Go.uns15 ?_ | refine Go.uns16 ?_ | refine Go.uns17 ?_ | refine Go.uns18 ?_ | refine Go.uns19 ?_ | refine Go.uns20 ?_ | refine Go.uns21 ?_ | refine Go.uns22 ?_ | refine Go.uns23 ?_)
  | refine Go.entup0 ?_ | refine Go.enlst0 ?_ | refine Go.entup1 ?_ | refine Go.enlst1 ?_ | refine Go.entup2 ?_ | refine Go.enlst2 ?_ | refine Go.entup3 ?_ | refine Go.enlst3 ?_ | refine Go.entup4 ?_ | refine Go.enlst4 ?_ | refine Go.entup5 ?_ | refine Go.enlst5 ?_ | refine Go.entup6 ?_ | refine Go.enlst6 ?_)))
local macro_rules | `(tactic| walk_at "bl1") => `(tactic| first | ((with_reducible refine Go.gEqS ?_); (first | refine Go.eqS (b := true) ⟨rfl, by decide +kernel⟩ ⟨rfl, by decide +kernel⟩ rfl ?_ | refine Go.eqS (b := false) ⟨rfl, by decide +kernel⟩ ⟨rfl, by decide +kernel⟩ rfl ?_)) | ((with_reducible refine Go.gNeS ?_); (first | refine Go.neS (b := true) ⟨rfl, by decide +kernel⟩ ⟨rfl, by decide +kernel⟩ rfl ?_ | refine Go.neS (b := false) ⟨rfl, by decide +kernel⟩ ⟨rfl, by decide +kernel⟩ rfl ?_)) | walk_at "bl0" | ((with_reducible refine Go.gAll ?_); (refine Go.allB (by rfl) ?_)) | ((with_reducible refine Go.gIxT ?_); (refine Go.ixT (by rfl) ?_)) | ((with_reducible refine Go.gIxL ?_); (refine Go.ixL (by rfl) ?_)))
local macro_rules | `(tactic| walk_at "bl") => `(tactic| (repeat walk_at "bl1"))
local macro_rules | `(tactic| walk_at "bl0") => `(tactic| (with_reducible (first | refine Go.zipS' ?_ | refine Go.zipR' ?_ | refine Go.seqT ?_ | refine Go.seqL ?_ | refine Go.zipST rfl ?_ | refine Go.zipSL rfl ?_ | refine Go.for_zc ?_ | refine Go.for_zn ?_ | refine Go.lg_zc ?_ | refine Go.lg_zn ?_)))
instance : DecidableEq Rt := fun x y => if h : x.b = y.b ∧ x.s = y.s ∧ x.q = y.q then isTrue (by
    cases x; cases y
    simp only at h
    rw [h.1, h.2.1, h.2.2]) else isFalse fun e => h (by rw [e]; exact ⟨rfl, rfl, rfl⟩)
theorem rt_eqd (x y : Rt) : eqD (rt x) (rt y) = decide (x = y) := by
  have e : eqD (rt x) (rt y) = (eqD (fr x.b) (fr y.b) && ((x.s == y.s) && (eqD (fr x.q) (fr y.q) && true))) := rfl
  rw [e, eq_fr, eq_fr, Bool.eq_iff_iff]
  simp only [Bool.and_eq_true, decide_eq_true_eq, beq_iff_eq, and_true]
  constructor
  · rintro ⟨a, b, c⟩
    cases x; cases y
    simp only at a b c
    rw [a, b, c]
  · rintro rfl
    exact ⟨rfl, rfl, rfl⟩
/-- a root as the law draws it -/
structure Gd (x : Rt) : Prop where
  ok : Ok x
  cn : Cn x
  b : sr 120 x.b
  q : sr 42 x.q
end Lr

namespace Lr
open PySem PySem.Spec PyProof.Rows L2 Bl Lb Rl
local macro_rules | `(tactic| walk_at "bl0") => `(tactic| (with_reducible (first
  | (refine Go.gVr ?_; first | refine Go.vr0 ?_ | refine Go.vr1 ?_ | refine Go.vr2 ?_ | refine Go.vr3 ?_ | refine Go.vr4 ?_ | refine Go.vr5 ?_ | refine Go.vr6 ?_ | refine Go.vr7 ?_ | refine Go.vr8 ?_ | refine Go.vr9 ?_ | refine Go.vr10 ?_ | refine Go.vr11 ?_ | refine Go.vr12 ?_ | refine Go.vr13 ?_ | refine Go.vr14 ?_ | refine Go.vr15 ?_ | refine Go.vr16 ?_ | refine Go.vr17 ?_ | refine Go.vr18 ?_ | refine Go.vr19 ?_ | refine Go.vr20 ?_ | refine Go.vr21 ?_ | refine Go.vr22 ?_ | refine Go.vr23 ?_)
  | refine Go.seq ?_
  | refine Go.nx' ?_
  | refine Go.ret ?_
  | refine Go.if' ?_
  | refine Go.asg ?_
  | refine Go.par ?_
  | refine Go.drop ?_
  | refine Go.brk ?_
  | refine Go.cnt ?_
  | refine Go.raise ?_
  | refine Go.thru ?_
  | refine Go.tryAs ?_
  | refine Go.for' ?_
  | refine Go.sub ?_
  | refine Go.retN ?_
  | refine Go.par_cons ?_
  | refine Go.par_nil ?_
  | refine Go.cn' ?_
  | refine Go.two ?_
  | refine Go.nil ?_
  | refine Go.cons ?_
  | refine Go.tup ?_
  | refine Go.lst ?_
  | refine Go.lstR ?_
  | refine Go.tbl' ?_
  | refine Go.tblK' ?_
  | refine Go.ttr' ?_
  | refine Go.truB ?_
  | refine Go.truI ?_
  | refine Go.truN ?_
  | refine Go.and' ?_
  | refine Go.or' ?_
  | refine Go.not' ?_
  | refine Go.vOf' ?_
  | refine Go.vNot' ?_
  | refine Go.eIf' ?_
  | refine Go.ifT ?_
  | refine Go.ifF ?_
  | refine Go.ifN ?_
  | refine Go.add ?_
  | refine Go.sub' ?_
  | refine Go.lt ?_
  | refine Go.le ?_
  | refine Go.gt ?_
  | refine Go.ge ?_
  | refine Go.eqI ?_
  | refine Go.neI ?_
  | refine Go.is' ?_
  | refine Go.isNot' ?_
  | refine Go.chain ?_
  | refine Go.dB' ?_
  | refine Go.neg ?_
  | refine Go.neg' ?_
  | refine Go.abs' ?_
  | refine Go.lenT ?_
  | refine Go.lenL ?_
  | refine Go.max' ?_
  | refine Go.min' ?_
  | refine Go.intI ?_
  | refine Go.intB ?_
  | refine Go.tupL ?_
  | refine Go.tupT ?_
  | refine Go.isi ?_
  | refine Go.call ?_
  | refine Go.iVal' ?_
  | refine Go.iValT ?_
  | refine Go.iValL ?_
  | refine Go.r1 ?_
  | refine Go.r2 ?_
  | refine Go.star ?_
  | refine Go.l_cons ?_
  | refine Go.l_nil ?_
  | refine Go.enum' ?_
  | refine Go.rev' ?_
  | refine Go.zip' ?_
  | refine Go.wipe_nil ?_
  | refine Go.wipe_cons ?_
  | refine Go.iadd ?_
  | refine Go.sl ?_
  | refine Go.oN ?_
  | refine Go.oS ?_
  | refine Go.osK' ?_
  | refine Go.getL ?_
  | refine Go.lc ?_
  | refine Go.lcR ?_
  | refine Go.lg_nil ?_
  | refine Go.lg_cons ?_
  | refine Go.yes ?_
  | refine Go.for_nil ?_
  | refine Go.for_cons ?_
  | refine Go.revT ?_
  | refine Go.revL ?_
  | refine Go.zipT ?_
  | refine Go.zipL ?_
  | refine Go.tupK' rfl ?_
  | refine Go.lstK' rfl ?_
  | refine Go.callK' rfl rfl ?_
  | refine Go.lcL rfl ?_
  | refine Go.getLL' rfl ?_
  | refine Go.addT rfl ?_
  | (refine Go.gAsg ?_; first | refine Go.set0 ?_ | refine Go.set1 ?_ | refine Go.set2 ?_ | refine Go.set3 ?_ | refine Go.set4 ?_ | refine Go.set5 ?_ | refine Go.set6 ?_ | refine Go.set7 ?_ | refine Go.set8 ?_ | refine Go.set9 ?_ | refine Go.set10 ?_ | refine Go.set11 ?_ | refine Go.set12 ?_ | refine Go.set13 ?_ | refine Go.set14 ?_ | refine Go.set15 ?_ | refine Go.set16 ?_ | refine Go.set17 ?_ | refine Go.set18 ?_ | refine Go.set19 ?_ | refine Go.set20 ?_ | refine Go.set21 ?_ | refine Go.set22 ?_ | refine Go.set23 ?_ | refine Go.tp_cons ?_ | refine Go.tp_nil ?_)
  | (refine Go.gIxT ?_; first | refine Go.ixT0 ?_ | refine Go.ixT1 ?_ | refine Go.ixT2 ?_ | refine Go.ixT3 ?_ | refine Go.ixT4 ?_ | refine Go.ixT5 ?_ | refine Go.ixT6 ?_ | refine Go.ixT7 ?_)
  | (refine Go.gIxL ?_; first | refine Go.ixL0 ?_ | refine Go.ixL1 ?_ | refine Go.ixL2 ?_ | refine Go.ixL3 ?_ | refine Go.ixL4 ?_ | refine Go.ixL5 ?_ | refine Go.ixL6 ?_ | refine Go.ixL7 ?_)
  | (refine Go.gAug ?_; first | refine Go.aug0 ?_ | refine Go.aug1 ?_ | refine Go.aug2 ?_ | refine Go.aug3 ?_ | refine Go.aug4 ?_ | refine Go.aug5 ?_ | refine Go.aug6 ?_ | refine Go.aug7 ?_ | refine Go.aug8 ?_ | refine Go.aug9 ?_ | refine Go.aug10 ?_ | refine Go.aug11 ?_ | refine Go.aug12 ?_ | refine Go.aug13 ?_ | refine Go.aug14 ?_ | refine Go.aug15 ?_ | refine Go.aug16 ?_ | refine Go.aug17 ?_ | refine Go.aug18 ?_ | refine Go.aug19 ?_ | refine Go.aug20 ?_ | refine Go.aug21 ?_ | refine Go.aug22 ?_ | refine Go.aug23 ?_)
  | (refine Go.gStar ?_; first | refine Go.startup0 ?_ | refine Go.starlst0 ?_ | refine Go.startup1 ?_ | refine Go.starlst1 ?_ | refine Go.startup2 ?_ | refine Go.starlst2 ?_ | refine Go.startup3 ?_ | refine Go.starlst3 ?_ | refine Go.startup4 ?_ | refine Go.starlst4 ?_ | refine Go.startup_2 ?_ | refine Go.starlst_2 ?_ | refine Go.startup_3 ?_ | refine Go.starlst_3 ?_ | refine Go.startup_4 ?_ | refine Go.starlst_4 ?_)
  | refine Go.slfT1 ?_ | refine Go.sltT1 ?_ | refine Go.slfL1 ?_ | refine Go.sltL1 ?_ | refine Go.slfT2 ?_ | refine Go.sltT2 ?_ | refine Go.slfL2 ?_ | refine Go.sltL2 ?_ | refine Go.slfT3 ?_ | refine Go.sltT3 ?_ | refine Go.slfL3 ?_ | refine Go.sltL3 ?_ | refine Go.slfT4 ?_ | refine Go.sltT4 ?_ | refine Go.slfL4 ?_ | refine Go.sltL4 ?_
  | (refine Go.gUns ?_; first | refine Go.uns0 ?_ | refine Go.uns1 ?_ | refine Go.uns2 ?_ | refine Go.uns3 ?_ | refine Go.uns4 ?_ | refine Go.uns5 ?_ | refine Go.uns6 ?_ | refine Go.uns7 ?_ | refine Go.uns8 ?_ | refine Go.uns9 ?_ | refine Go.uns10 ?_ | refine Go.uns11 ?_ | refine Go.uns12 ?_ | refine Go.uns13 ?_ | refine Go.uns14 ?_ | refine Go.uns15 ?_ | refine Go.uns16 ?_ | refine Go.uns17 ?_ | refine Go.uns18 ?_ | refine Go.uns19 ?_ | refine Go.uns20 ?_ | refine Go.uns21 ?_ | refine Go.uns22 ?_ | refine Go.uns23 ?_)
  | refine Go.entup0 ?_ | refine Go.enlst0 ?_ | refine Go.entup1 ?_ | refine Go.enlst1 ?_ | refine Go.entup2 ?_ | refine Go.enlst2 ?_ | refine Go.entup3 ?_ | refine Go.enlst3 ?_ | refine Go.entup4 ?_ | refine Go.enlst4 ?_ | refine Go.entup5 ?_ | refine Go.enlst5 ?_ | refine Go.entup6 ?_ | refine Go.enlst6 ?_)))
local macro_rules | `(tactic| walk_at "bl1") => `(tactic| first | ((with_reducible refine Go.gEqS ?_); (first | refine Go.eqS (b := true) ⟨rfl, by decide +kernel⟩ ⟨rfl, by decide +kernel⟩ rfl ?_ | refine Go.eqS (b := false) ⟨rfl, by decide +kernel⟩ ⟨rfl, by decide +kernel⟩ rfl ?_)) | ((with_reducible refine Go.gNeS ?_); (first | refine Go.neS (b := true) ⟨rfl, by decide +kernel⟩ ⟨rfl, by decide +kernel⟩ rfl ?_ | refine Go.neS (b := false) ⟨rfl, by decide +kernel⟩ ⟨rfl, by decide +kernel⟩ rfl ?_)) | walk_at "bl0" | ((with_reducible refine Go.gAll ?_); (refine Go.allB (by rfl) ?_)) | ((with_reducible refine Go.gIxT ?_); (refine Go.ixT (by rfl) ?_)) | ((with_reducible refine Go.gIxL ?_); (refine Go.ixL (by rfl) ?_)))
local macro_rules | `(tactic| walk_at "bl") => `(tactic| (repeat walk_at "bl1"))
local macro_rules | `(tactic| walk_at "bl0") => `(tactic| (with_reducible (first | refine Go.zipS' ?_ | refine Go.zipR' ?_ | refine Go.seqT ?_ | refine Go.seqL ?_ | refine Go.zipST rfl ?_ | refine Go.zipSL rfl ?_ | refine Go.for_zc ?_ | refine Go.for_zn ?_ | refine Go.lg_zc ?_ | refine Go.lg_zn ?_)))
/-! ### the roots that are drawn -/
structure Sq2 (q : Rat) : Prop where
  n : 0 ≤ q
  w : sr 80 q
  s : sr 40 q ∨ ∃ t, sr 40 t ∧ t * t = q
theorem square_spec2 {a : Addr} {S : Sto} {Q : DK} {E : EK} (hb : Bg S a) (k : ∀ r S', Sq2 r → Bg S' a → Fr S S' a → Q (fr r) S') : m_l_square [.ref a] S Q E := by
  unfold m_l_square t_l_square
  simp only [fnD, sNx, sSeq, sRet, sRetN, sDrop, sIf, sBrk, sCnt, sAsg, sPar, sAug, sSub, setD, sThru, asgT, asgL, itemsOf, vr, cn, dTwo, tbl, ttr, truD_bl, truD_int, truD_non, truD_tup, truD_lst, truD_str, truD_ref, tAndD, tOrD, tNotD, vOf, eIf, vNot, dNeg, fAdd_int, fAdd_tup, fSub, fMul, fDiv, fMod, fPow, fShl, fLt, fLe, fGt, fGe, fEq, fNe, fIx_tup, fIx_lst, fIx_ref, aNil, aCons, dTup, dLst, dLstR, dB, bAbs, bLen_tup, bLen_lst, bLen_ref, bMax, bMin, bInt_int, bInt_bl, dBits, dCall, iVal, iR1, iR2, List.map_cons, List.map_nil, List.length_cons, List.length_nil, List.replicate, List.cons_append, List.nil_append, List.append_nil, List.set, List.getElem?_cons_zero, List.getElem?_cons_succ, List.getElem?_nil, atI_0, atI_1, atI_2, ix20, ix21, sup_same, Nat.reduceAdd, Nat.reduceSub, Nat.succ_eq_add_one, decide_eq_true_eq, Bool.not_eq_true', decide_eq_false_iff_not, true_and, and_true, Bool.true_eq_false, Bool.false_eq_true, if_true, if_false, reduceCtorEq]
  refine number_spec hb fun r S1 hr b1 f1 => ?_
  simp only [fnD, sNx, sSeq, sRet, sRetN, sDrop, sIf, sBrk, sCnt, sAsg, sPar, sAug, sSub, setD, sThru, asgT, asgL, itemsOf, vr, cn, dTwo, tbl, ttr, truD_bl, truD_int, truD_non, truD_tup, truD_lst, truD_str, truD_ref, tAndD, tOrD, tNotD, vOf, eIf, vNot, dNeg, fAdd_int, fAdd_tup, fSub, fMul, fDiv, fMod, fPow, fShl, fLt, fLe, fGt, fGe, fEq, fNe, fIx_tup, fIx_lst, fIx_ref, aNil, aCons, dTup, dLst, dLstR, dB, bAbs, bLen_tup, bLen_lst, bLen_ref, bMax, bMin, bInt_int, bInt_bl, dBits, dCall, iVal, iR1, iR2, List.map_cons, List.map_nil, List.length_cons, List.length_nil, List.replicate, List.cons_append, List.nil_append, List.append_nil, List.set, List.getElem?_cons_zero, List.getElem?_cons_succ, List.getElem?_nil, atI_0, atI_1, atI_2, ix20, ix21, sup_same, Nat.reduceAdd, Nat.reduceSub, Nat.succ_eq_add_one, decide_eq_true_eq, Bool.not_eq_true', decide_eq_false_iff_not, true_and, and_true, Bool.true_eq_false, Bool.false_eq_true, if_true, if_false, reduceCtorEq]
  refine take_spec b1 (by omega) (sm_k (by decide)) fun d S2 d0 d1 b2 f2 => ⟨⟨rfl, rfl⟩, ⟨rfl, rfl⟩, ?_⟩
  have e : ∀ d : Int, eqD (.int d) (.int 0) = decide (d = 0) := fun d => by
    show (d == 0) = _
    rw [Bool.eq_iff_iff]
    simp
  simp only [(e d), fnD, sNx, sSeq, sRet, sRetN, sDrop, sIf, sBrk, sCnt, sAsg, sPar, sAug, sSub, setD, sThru, asgT, asgL, itemsOf, vr, cn, dTwo, tbl, ttr, truD_bl, truD_int, truD_non, truD_tup, truD_lst, truD_str, truD_ref, tAndD, tOrD, tNotD, vOf, eIf, vNot, dNeg, fAdd_int, fAdd_tup, fSub, fMul, fDiv, fMod, fPow, fShl, fLt, fLe, fGt, fGe, fEq, fNe, fIx_tup, fIx_lst, fIx_ref, aNil, aCons, dTup, dLst, dLstR, dB, bAbs, bLen_tup, bLen_lst, bLen_ref, bMax, bMin, bInt_int, bInt_bl, dBits, dCall, iVal, iR1, iR2, List.map_cons, List.map_nil, List.length_cons, List.length_nil, List.replicate, List.cons_append, List.nil_append, List.append_nil, List.set, List.getElem?_cons_zero, List.getElem?_cons_succ, List.getElem?_nil, atI_0, atI_1, atI_2, ix20, ix21, sup_same, Nat.reduceAdd, Nat.reduceSub, Nat.succ_eq_add_one, decide_eq_true_eq, Bool.not_eq_true', decide_eq_false_iff_not, true_and, and_true, Bool.true_eq_false, Bool.false_eq_true, if_true, if_false, reduceCtorEq]
  split
  · refine ⟨hr.n.cmul hr.n (by decide), hr.d.cmul hr.d (by decide), low_spec (n := 80) (Int.mul_ne_zero (den_ne r) (den_ne r)) (hr.n.mul hr.n) (hr.d.mul hr.d) (by decide) (r := r * r) ?_ (k _ _ ⟨Lb.sq_nonneg r, hr.mul hr, .inr ⟨r, hr, rfl⟩⟩ b2 (f1.trans f2))⟩
    have e1 := num_den r
    simp only [Rat.intCast_mul]
    grind
  · have z := k (rabs r) S2 ⟨rabs_nonneg r, (hr.abs.mono (by decide)), .inl hr.abs⟩ b2 (f1.trans f2)
    unfold fr at z
    rw [rabs_num, rabs_den] at z
    exact ⟨by decide, z⟩
def Mg (c : Int) (b : Rat) : Prop := -(c : Rat) ≤ b ∧ b ≤ (c : Rat)
theorem Mg.mono {c d : Int} {b : Rat} (h : Mg c b) (l : c ≤ d) : Mg d b := by
  have : (c : Rat) ≤ (d : Rat) := Rat.intCast_le_intCast.mpr l
  exact ⟨by have := h.1; grind, by have := h.2; grind⟩
theorem sr_mg {n : Nat} {b : Rat} (h : sr n b) : Mg (2 ^ n) b := by
  obtain ⟨h1, h2⟩ := sr_lt h
  rw [← Real.of_neg, Real.of_lt] at h1
  rw [Real.of_lt] at h2
  exact ⟨Rat.le_of_lt h1, Rat.le_of_lt h2⟩
theorem sqr_40 {q : Rat} (h : Sq2 q) : sr 40 (sqr q) := by
  rcases h.s with z | ⟨t, st, e⟩
  · exact sqr_sr z h.n
  · rcases rat_lt_or_le t 0 with y | y
    · rw [sqr_of (t := -t) (by rw [← e]; grind) (by grind)]
      exact st.neg
    · rw [sqr_of e y]
      exact st
theorem gd_zero {b : Rat} (h : sr 120 b) : Gd ⟨b, 0, 0⟩ := ⟨⟨Rat.le_refl, .inr (.inl rfl), fun _ => rfl, fun z => absurd rfl z⟩, .inl ⟨rfl, rfl⟩, h, sr.zero⟩
theorem canon_gd {b q : Rat} {s : Int} {c : Int} {n : Nat} (hb : sr n b) (hn : n ≤ 78) (hm : Mg c b) (hq : Sq2 q) (hs : s = -1 ∨ s = 0 ∨ s = 1) : Gd (canon b s q) ∧ Mg (c + 2 ^ 40) (canon b s q).b := by
  unfold canon
  by_cases h : s = 0 ∨ q = 0
  · rw [if_pos h]
    exact ⟨gd_zero (hb.mono (by omega)), hm.mono (by have h40 : (0 : Int) ≤ 2 ^ 40 := (by decide); omega)⟩
  · rw [if_neg h]
    have h1 : s ≠ 0 := fun z => h (.inl z)
    have h2 : q ≠ 0 := fun z => h (.inr z)
    by_cases h3 : sqb q
    · rw [if_pos h3]
      have s4 := sqr_40 hq
      have m4 := sr_mg s4
      refine ⟨gd_zero ((hb.add ((sr_s hs).mul s4)).mono (by omega)), ?_⟩
      have sn := sqr_nonneg q
      unfold Mg at *
      have e : (((c + 2 ^ 40 : Int)) : Rat) = (c : Rat) + ((2 ^ 40 : Int) : Rat) := Rat.intCast_add ..
      rw [e]
      rcases hs with z | z | z <;> rw [z]
      · have : ((-1 : Int) : Rat) = -1 := rfl
        rw [this]
        exact ⟨by grind, by grind⟩
      · exact absurd z h1
      · have : ((1 : Int) : Rat) = 1 := rfl
        rw [this]
        exact ⟨by grind, by grind⟩
    · rw [if_neg h3]
      have q4 : sr 40 q := by
        rcases hq.s with z | ⟨t, _, e⟩
        · exact z
        · exact absurd (sqb_of e) h3
      have qp : 0 < q := by
        rcases rat_lt_or_le 0 q with z | z
        · exact z
        · exact absurd (Rat.le_antisymm z hq.n) h2
      exact ⟨⟨⟨hq.n, hs, fun z => absurd z h1, fun _ => qp⟩, .inr ⟨h1, h2, h3⟩, hb.mono (by omega), q4.mono (by decide)⟩, hm.mono (by have h40 : (0 : Int) ≤ 2 ^ 40 := (by decide); omega)⟩
/-- the lower bound, by what it is of -/
theorem low_near {x : Rt} {c lo hi g t : Int} (h : Gd x) (hm : Mg c x.b) (g0 : 0 < g) (h1 : Real.of (lo : Rat) < val x * Real.of (g : Rat)) (h2 : val x * Real.of (g : Rat) < Real.of (hi : Rat)) (h3 : hi ≤ lo + 4) (t0 : 0 ≤ t) (t1 : t < 4) : -((c + 2 ^ 21 + 8) * g) ≤ lo + t ∧ lo + t ≤ (c + 2 ^ 21 + 8) * g := by
  have b1 := Real.of_le.mpr hm.1
  have b2 := Real.of_le.mpr hm.2
  rw [Real.of_neg] at b1
  have u := s_le h.ok
  have ru := rt_lt (m := 21) h.ok.q0 h.q
  have gp := int_pos.mpr g0
  have g1 := ofI_le.mpr (show 1 ≤ g by omega)
  have e4 : Real.of ((4 : Int) : Rat) = 4 := rfl
  have e8 : Real.of ((8 : Int) : Rat) = 8 := rfl
  have l3 := ofI_le.mpr h3
  rw [ofI_add, e4] at l3
  have t2 := ofI_le.mpr t0
  have t3 := ofI_le.mpr (show t ≤ 4 by omega)
  rw [of_int0] at t2
  rw [e4] at t3
  rw [of_int1] at g1
  have ev1 : val x = Real.of x.b + Real.of (x.s : Rat) * rtq x.q := rfl
  rw [← ofI_le, ← ofI_le, ofI_neg, of_int_mul, ofI_add, ofI_add, ofI_add, e8]
  rw [ev1] at h1 h2
  generalize Real.of (x.s : Rat) * rtq x.q = U at *
  generalize Real.of x.b = B at *
  generalize Real.of (g : Rat) = G at *
  generalize Real.of (c : Rat) = C at *
  generalize Real.of ((2 ^ 21 : Int) : Rat) = P at *
  have v1 := mul_nn' (show 0 ≤ C + P - (B + U) by grind) (show 0 ≤ G by grind)
  have v2 := mul_nn' (show 0 ≤ C + P + (B + U) by grind) (show 0 ≤ G by grind)
  exact ⟨by grind, by grind⟩
end Lr

namespace Rl
open Lb
/-! ### floors, scaled roots, a fraction and a root -/
theorem fl_base (b : Rat) : Real.of ((b.num / (b.den : Int) : Int) : Rat) ≤ Real.of b ∧ Real.of b < Real.of ((b.num / (b.den : Int) : Int) : Rat) + 1 := by
  have p : (0 : Int) < b.den := by have := b.den_pos; omega
  have h := base_between b 1 (b.num / (b.den : Int)) p (by rw [Int.mul_one]; exact Int.ediv_mul_le b.num (by omega)) (by rw [Int.mul_one]; exact Int.lt_ediv_add_one_mul_self b.num p)
  rw [of_int1] at h
  exact ⟨by have := h.1; grind, by have := h.2; grind⟩
theorem ge_of_sq {x t : Real} (ht : 0 ≤ t) (hx : 0 ≤ x) (h : x * x ≤ t * t) : x ≤ t := by
  rcases Real.tri' x t with z | z | z
  · grind
  · grind
  · have := Real.mul_pos (show 0 < x - t by grind) (show 0 < x + t by grind)
    grind
theorem fl_root {q : Rat} (h0 : 0 ≤ q) : Real.of (((isq (q.num / (q.den : Int)).toNat : Nat) : Int) : Rat) ≤ rtq q ∧ rtq q < Real.of (((isq (q.num / (q.den : Int)).toNat : Nat) : Int) : Rat) + 1 := by
  obtain ⟨h1, h2⟩ := fl_base q
  have p : (0 : Int) < q.den := by have := q.den_pos; omega
  have f0 : 0 ≤ q.num / (q.den : Int) := Int.ediv_nonneg (Rat.num_nonneg.mpr h0) (by omega)
  generalize q.num / (q.den : Int) = F at *
  obtain ⟨g1, g2⟩ := isq_spec F.toNat
  generalize isq F.toNat = R at *
  have G1 : ((R : Nat) : Int) * ((R : Nat) : Int) ≤ F := by
    have : ((R * R : Nat) : Int) ≤ (F.toNat : Int) := by exact_mod_cast g1
    rw [Int.natCast_mul] at this
    omega
  have G2 : F + 1 ≤ (((R : Nat) : Int) + 1) * (((R : Nat) : Int) + 1) := by
    have : (F.toNat : Int) < ((R : Int) + 1) * ((R : Int) + 1) := by exact_mod_cast g2
    omega
  have a1 := ofI_le.mpr G1
  have a2 := ofI_le.mpr G2
  have a3 : 0 ≤ Real.of (((R : Nat) : Int) : Rat) := of_nn (Rat.intCast_nonneg.mpr (by omega))
  simp only [of_int_mul, ofI_add, of_int1] at a1 a2
  have e := rtq_sq h0
  have rn := rtq_nn q
  exact ⟨ge_of_sq rn a3 (by rw [e]; grind), lt_of_sq (by grind) rn (by rw [e]; grind)⟩
/-- where a root lies, by the whole numbers of its parts -/
theorem fl_val {x : Rt} (hx : Ok x) : Real.of ((x.b.num / (x.b.den : Int) + x.s * ((isq (x.q.num / (x.q.den : Int)).toNat : Nat) : Int) : Int) : Rat) - 1 ≤ val x ∧ val x < Real.of ((x.b.num / (x.b.den : Int) + x.s * ((isq (x.q.num / (x.q.den : Int)).toNat : Nat) : Int) : Int) : Rat) + 2 := by
  obtain ⟨h1, h2⟩ := fl_base x.b
  obtain ⟨h3, h4⟩ := fl_root hx.q0
  have ev1 : val x = Real.of x.b + Real.of (x.s : Rat) * rtq x.q := rfl
  rw [ev1, ofI_add, of_int_mul]
  rcases hx.s with e | e | e
  · rw [e, of_intm1]; exact ⟨by grind, by grind⟩
  · rw [e, of_int0]; exact ⟨by grind, by grind⟩
  · rw [e, of_int1]; exact ⟨by grind, by grind⟩
theorem scale_cn {x : Rt} {g : Rat} (h : Cn x) (g0 : g ≠ 0) : canon (x.b * g) (x.s * g.num.sign) (x.q * (g * g)) = ⟨x.b * g, x.s * g.num.sign, x.q * (g * g)⟩ := by
  have ss := sign_sq g0
  rcases h with ⟨h1, h2⟩ | ⟨h1, h2, h3⟩
  · unfold canon
    rw [if_pos (.inl (by rw [h1, Int.zero_mul])), h1, h2, Int.zero_mul, Rat.zero_mul]
  · have n1 : ¬(x.s * g.num.sign = 0 ∨ x.q * (g * g) = 0) := by
      rintro (w | w)
      · rcases Int.mul_eq_zero.mp w with w | w
        · exact h1 w
        · rw [w] at ss; cases ss
      · rcases Rat.mul_eq_zero.mp w with w | w
        · exact h2 w
        · rcases Rat.mul_eq_zero.mp w with w | w <;> exact g0 w
    unfold canon
    rw [if_neg n1, if_neg fun w => h3 (sqb_scale g0 w)]
theorem sign_mul_of {g : Rat} (g0 : g ≠ 0) : 0 < Real.of (g.num.sign : Rat) * Real.of g := by
  rcases rat_lt_or_le g 0 with z | z
  · rw [num_sign.2 z, of_intm1]
    have := of_pos (show 0 < -g by grind)
    rw [Real.of_neg] at this
    grind
  · have z2 : 0 < g := by grind
    rw [num_sign.1 z2, of_int1]
    have := of_pos z2
    grind
theorem scale_val {x : Rt} {g : Rat} (h : Ok x) (g0 : g ≠ 0) : val ⟨x.b * g, x.s * g.num.sign, x.q * (g * g)⟩ = val x * Real.of g := by
  have sp := sign_mul_of g0
  have ss := sign_sq g0
  have s2 : Real.of (g.num.sign : Rat) * Real.of (g.num.sign : Rat) = 1 := by rw [← of_int_mul, ss, of_int1]
  have hg : rtq (x.q * (g * g)) = rtq x.q * (Real.of (g.num.sign : Rat) * Real.of g) := by
    have e : g * g = ((g.num.sign : Int) : Rat) * g * (((g.num.sign : Int) : Rat) * g) := by
      have : ((g.num.sign : Int) : Rat) * ((g.num.sign : Int) : Rat) = 1 := by rw [← Rat.intCast_mul, ss]; rfl
      grind
    rw [e, rtq_scale h.q0, Real.of_mul]
    rw [← Real.of_mul, ← Real.of_zero, Real.of_lt] at sp
    grind
  unfold val
  simp only
  rw [hg, of_int_mul, Real.of_mul]
  generalize Real.of ((Int.sign g.num : Int) : Rat) = t at *
  have e : t * (t * Real.of g) = Real.of g := by
    have : t * (t * Real.of g) = t * t * Real.of g := by grind
    rw [this, s2]; grind
  have e2 : Real.of (x.s : Rat) * t * (rtq x.q * (t * Real.of g)) = Real.of (x.s : Rat) * rtq x.q * (t * (t * Real.of g)) := by grind
  rw [e2, e]
  grind
theorem scale_ok {x : Rt} {g : Rat} (h : Ok x) (g0 : g ≠ 0) : Ok ⟨x.b * g, x.s * g.num.sign, x.q * (g * g)⟩ := by
  have ss := sign_sq g0
  have gg : 0 < g * g := by
    rcases rat_lt_or_le 0 (g * g) with z | z
    · exact z
    · have := Rat.le_antisymm z (Lb.sq_nonneg g)
      rcases Rat.mul_eq_zero.mp this with w | w <;> exact absurd w g0
  refine ⟨Rat.mul_nonneg h.q0 (Lb.sq_nonneg g), sign_mul h.s (Lb.num_sign g), fun z => ?_, fun z => ?_⟩
  · show x.q * (g * g) = 0
    have z' : x.s * g.num.sign = 0 := z
    rcases Int.mul_eq_zero.mp z' with w | w
    · rw [h.z w, Rat.zero_mul]
    · rw [w] at ss; cases ss
  · have z' : x.s * g.num.sign ≠ 0 := z
    exact Rat.mul_pos (h.p fun w => z' (by rw [w, Int.zero_mul])) gg
theorem move_val (x : Rt) (g : Rat) : val ⟨x.b + g, x.s, x.q⟩ = val x + Real.of g := by
  unfold val
  simp only
  rw [Real.of_add]
  grind
theorem move_ok {x : Rt} {g : Rat} (h : Ok x) : Ok ⟨x.b + g, x.s, x.q⟩ := ⟨h.q0, h.s, h.z, h.p⟩
theorem move_cn {x : Rt} {g : Rat} (h : Cn x) : Cn ⟨x.b + g, x.s, x.q⟩ := h
theorem scale_cn' {x : Rt} {g : Rat} (h : Cn x) (g0 : g ≠ 0) : Cn ⟨x.b * g, x.s * g.num.sign, x.q * (g * g)⟩ := by rw [← scale_cn h g0]; exact canon_cn ..
theorem val_fr (r : Rat) : val ⟨r, 0, 0⟩ = Real.of r := by
  unfold val
  simp only
  rw [of_int0]
  grind
theorem ok_fr0 (r : Rat) : Ok ⟨r, 0, 0⟩ := ⟨Rat.le_refl, .inr (.inl rfl), fun _ => rfl, fun z => absurd rfl z⟩
end Rl

namespace Lr
open PySem PySem.Spec PyProof.Rows L2 Bl Lb Rl
local macro_rules | `(tactic| walk_at "bl0") => `(tactic| (with_reducible (first
  | (refine Go.gVr ?_; first | refine Go.vr0 ?_ | refine Go.vr1 ?_ | refine Go.vr2 ?_ | refine Go.vr3 ?_ | refine Go.vr4 ?_ | refine Go.vr5 ?_ | refine Go.vr6 ?_ | refine Go.vr7 ?_ | refine Go.vr8 ?_ | refine Go.vr9 ?_ | refine Go.vr10 ?_ | refine Go.vr11 ?_ | refine Go.vr12 ?_ | refine Go.vr13 ?_ | refine Go.vr14 ?_ | refine Go.vr15 ?_ | refine Go.vr16 ?_ | refine Go.vr17 ?_ | refine Go.vr18 ?_ | refine Go.vr19 ?_ | refine Go.vr20 ?_ | refine Go.vr21 ?_ | refine Go.vr22 ?_ | refine Go.vr23 ?_)
  | refine Go.seq ?_
  | refine Go.nx' ?_
  | refine Go.ret ?_
  | refine Go.if' ?_
  | refine Go.asg ?_
  | refine Go.par ?_
  | refine Go.drop ?_
  | refine Go.brk ?_
  | refine Go.cnt ?_
  | refine Go.raise ?_
  | refine Go.thru ?_
  | refine Go.tryAs ?_
  | refine Go.for' ?_
  | refine Go.sub ?_
  | refine Go.retN ?_
  | refine Go.par_cons ?_
  | refine Go.par_nil ?_
  | refine Go.cn' ?_
  | refine Go.two ?_
  | refine Go.nil ?_
  | refine Go.cons ?_
  | refine Go.tup ?_
  | refine Go.lst ?_
  | refine Go.lstR ?_
  | refine Go.tbl' ?_
  | refine Go.tblK' ?_
  | refine Go.ttr' ?_
  | refine Go.truB ?_
  | refine Go.truI ?_
  | refine Go.truN ?_
  | refine Go.and' ?_
  | refine Go.or' ?_
  | refine Go.not' ?_
  | refine Go.vOf' ?_
  | refine Go.vNot' ?_
  | refine Go.eIf' ?_
  | refine Go.ifT ?_
  | refine Go.ifF ?_
  | refine Go.ifN ?_
  | refine Go.add ?_
  | refine Go.sub' ?_
  | refine Go.lt ?_
  | refine Go.le ?_
  | refine Go.gt ?_
  | refine Go.ge ?_
  | refine Go.eqI ?_
  | refine Go.neI ?_
  | refine Go.is' ?_
  | refine Go.isNot' ?_
  | refine Go.chain ?_
  | refine Go.dB' ?_
  | refine Go.neg ?_
  | refine Go.neg' ?_
  | refine Go.abs' ?_
  | refine Go.lenT ?_
  | refine Go.lenL ?_
  | refine Go.max' ?_
  | refine Go.min' ?_
  | refine Go.intI ?_
  | refine Go.intB ?_
  | refine Go.tupL ?_
  | refine Go.tupT ?_
  | refine Go.isi ?_
  | refine Go.call ?_
  | refine Go.iVal' ?_
  | refine Go.iValT ?_
  | refine Go.iValL ?_
  | refine Go.r1 ?_
  | refine Go.r2 ?_
  | refine Go.star ?_
  | refine Go.l_cons ?_
  | refine Go.l_nil ?_
  | refine Go.enum' ?_
  | refine Go.rev' ?_
  | refine Go.zip' ?_
  | refine Go.wipe_nil ?_
  | refine Go.wipe_cons ?_
  | refine Go.iadd ?_
  | refine Go.sl ?_
  | refine Go.oN ?_
  | refine Go.oS ?_
  | refine Go.osK' ?_
  | refine Go.getL ?_
  | refine Go.lc ?_
  | refine Go.lcR ?_
  | refine Go.lg_nil ?_
  | refine Go.lg_cons ?_
  | refine Go.yes ?_
  | refine Go.for_nil ?_
  | refine Go.for_cons ?_
  | refine Go.revT ?_
  | refine Go.revL ?_
  | refine Go.zipT ?_
  | refine Go.zipL ?_
  | refine Go.tupK' rfl ?_
  | refine Go.lstK' rfl ?_
  | refine Go.callK' rfl rfl ?_
  | refine Go.lcL rfl ?_
  | refine Go.getLL' rfl ?_
  | refine Go.addT rfl ?_
  | (refine Go.gAsg ?_; first | refine Go.set0 ?_ | refine Go.set1 ?_ | refine Go.set2 ?_ | refine Go.set3 ?_ | refine Go.set4 ?_ | refine Go.set5 ?_ | refine Go.set6 ?_ | refine Go.set7 ?_ | refine Go.set8 ?_ | refine Go.set9 ?_ | refine Go.set10 ?_ | refine Go.set11 ?_ | refine Go.set12 ?_ | refine Go.set13 ?_ | refine Go.set14 ?_ | refine Go.set15 ?_ | refine Go.set16 ?_ | refine Go.set17 ?_ | refine Go.set18 ?_ | refine Go.set19 ?_ | refine Go.set20 ?_ | refine Go.set21 ?_ | refine Go.set22 ?_ | refine Go.set23 ?_ | refine Go.tp_cons ?_ | refine Go.tp_nil ?_)
  | (refine Go.gIxT ?_; first | refine Go.ixT0 ?_ | refine Go.ixT1 ?_ | refine Go.ixT2 ?_ | refine Go.ixT3 ?_ | refine Go.ixT4 ?_ | refine Go.ixT5 ?_ | refine Go.ixT6 ?_ | refine Go.ixT7 ?_)
  | (refine Go.gIxL ?_; first | refine Go.ixL0 ?_ | refine Go.ixL1 ?_ | refine Go.ixL2 ?_ | refine Go.ixL3 ?_ | refine Go.ixL4 ?_ | refine Go.ixL5 ?_ | refine Go.ixL6 ?_ | refine Go.ixL7 ?_)
  | (refine Go.gAug ?_; first | refine Go.aug0 ?_ | refine Go.aug1 ?_ | refine Go.aug2 ?_ | refine Go.aug3 ?_ | refine Go.aug4 ?_ | refine Go.aug5 ?_ | refine Go.aug6 ?_ | refine Go.aug7 ?_ | refine Go.aug8 ?_ | refine Go.aug9 ?_ | refine Go.aug10 ?_ | refine Go.aug11 ?_ | refine Go.aug12 ?_ | refine Go.aug13 ?_ | refine Go.aug14 ?_ | refine Go.aug15 ?_ | refine Go.aug16 ?_ | refine Go.aug17 ?_ | refine Go.aug18 ?_ | refine Go.aug19 ?_ | refine Go.aug20 ?_ | refine Go.aug21 ?_ | refine Go.aug22 ?_ | refine Go.aug23 ?_)
  | (refine Go.gStar ?_; first | refine Go.startup0 ?_ | refine Go.starlst0 ?_ | refine Go.startup1 ?_ | refine Go.starlst1 ?_ | refine Go.startup2 ?_ | refine Go.starlst2 ?_ | refine Go.startup3 ?_ | refine Go.starlst3 ?_ | refine Go.startup4 ?_ | refine Go.starlst4 ?_ | refine Go.startup_2 ?_ | refine Go.starlst_2 ?_ | refine Go.startup_3 ?_ | refine Go.starlst_3 ?_ | refine Go.startup_4 ?_ | refine Go.starlst_4 ?_)
  | refine Go.slfT1 ?_ | refine Go.sltT1 ?_ | refine Go.slfL1 ?_ | refine Go.sltL1 ?_ | refine Go.slfT2 ?_ | refine Go.sltT2 ?_ | refine Go.slfL2 ?_ | refine Go.sltL2 ?_ | refine Go.slfT3 ?_ | refine Go.sltT3 ?_ | refine Go.slfL3 ?_ | refine Go.sltL3 ?_ | refine Go.slfT4 ?_ | refine Go.sltT4 ?_ | refine Go.slfL4 ?_ | refine Go.sltL4 ?_
  | (refine Go.gUns ?_; first | refine Go.uns0 ?_ | refine Go.uns1 ?_ | refine Go.uns2 ?_ | refine Go.uns3 ?_ | refine Go.uns4 ?_ | refine Go.uns5 ?_ | refine Go.uns6 ?_ | refine Go.uns7 ?_ | refine Go.uns8 ?_ | refine Go.uns9 ?_ | refine Go.uns10 ?_ | refine Go.uns11 ?_ | refine Go.uns12 ?_ | refine Go.uns13 ?_ | refine Go.uns14 ?_ | refine Go.uns15 ?_ | refine Go.uns16 ?_ | refine Go.uns17 ?_ | refine Go.uns18 ?_ | refine Go.uns19 ?_ | refine Go.uns20 ?_ | refine Go.uns21 ?_ | refine Go.uns22 ?_ | refine Go.uns23 ?_)
  | refine Go.entup0 ?_ | refine Go.enlst0 ?_ | refine Go.entup1 ?_ | refine Go.enlst1 ?_ | refine Go.entup2 ?_ | refine Go.enlst2 ?_ | refine Go.entup3 ?_ | refine Go.enlst3 ?_ | refine Go.entup4 ?_ | refine Go.enlst4 ?_ | refine Go.entup5 ?_ | refine Go.enlst5 ?_ | refine Go.entup6 ?_ | refine Go.enlst6 ?_)))
local macro_rules | `(tactic| walk_at "bl1") => `(tactic| first | ((with_reducible refine Go.gEqS ?_); (first | refine Go.eqS (b := true) ⟨rfl, by decide +kernel⟩ ⟨rfl, by decide +kernel⟩ rfl ?_ | refine Go.eqS (b := false) ⟨rfl, by decide +kernel⟩ ⟨rfl, by decide +kernel⟩ rfl ?_)) | ((with_reducible refine Go.gNeS ?_); (first | refine Go.neS (b := true) ⟨rfl, by decide +kernel⟩ ⟨rfl, by decide +kernel⟩ rfl ?_ | refine Go.neS (b := false) ⟨rfl, by decide +kernel⟩ ⟨rfl, by decide +kernel⟩ rfl ?_)) | walk_at "bl0" | ((with_reducible refine Go.gAll ?_); (refine Go.allB (by rfl) ?_)) | ((with_reducible refine Go.gIxT ?_); (refine Go.ixT (by rfl) ?_)) | ((with_reducible refine Go.gIxL ?_); (refine Go.ixL (by rfl) ?_)))
local macro_rules | `(tactic| walk_at "bl") => `(tactic| (repeat walk_at "bl1"))
local macro_rules | `(tactic| walk_at "bl0") => `(tactic| (with_reducible (first | refine Go.zipS' ?_ | refine Go.zipR' ?_ | refine Go.seqT ?_ | refine Go.seqL ?_ | refine Go.zipST rfl ?_ | refine Go.zipSL rfl ?_ | refine Go.for_zc ?_ | refine Go.for_zn ?_ | refine Go.lg_zc ?_ | refine Go.lg_zn ?_)))
/-! ### roots and fractions that are not in lowest terms -/
theorem plus_raw {t u : Int} {b : Rat} {m n : Nat} {S : Sto} {Q : DK} {E : EK} (hu : u ≠ 0) (st : sm m t) (su : sm m u) (hb : sr n b) (hn : m + n + 1 ≤ 8900) (k : Q (fr ((t : Rat) / (u : Rat) + b)) S) : m_plus [.tup [.int t, .int u], fr b] S Q E := by
  refine e_plus ?_
  unfold t_plus
  walk_at "bl"
  refine Go.mul (st.cmul hb.d (by omega)) ?_
  walk_at "bl"
  refine Go.mul (hb.n.cmul su (by omega)) ?_
  walk_at "bl"
  refine Go.mul (su.cmul hb.d (by omega)) ?_
  walk_at "bl"
  have e2 := num_den b
  have e1 : (t : Rat) / (u : Rat) * (u : Rat) = (t : Rat) := Rat.div_mul_cancel (castne hu)
  refine frac_spec (n := m + n + 1) (Int.mul_ne_zero hu (den_ne b)) ((st.mul hb.d).add ((hb.n.mul su).mono (by omega))) ((su.mul hb.d).mono (by omega)) hn ?_ k
  simp only [Rat.intCast_mul, Rat.intCast_add]
  grind
theorem moved_raw {t u : Int} {b : Rat} {m n : Nat} {S : Sto} {Q : DK} {E : EK} (hu : u ≠ 0) (st : sm m t) (su : sm m u) (hb : sr n b) (hn : m + n + 1 ≤ 8900) (k : Q (rt ⟨(t : Rat) / (u : Rat) + b, 0, 0⟩) S) : m_moved [.tup [.tup [.int t, .int u], .int 0, .tup [.int 0, .int 1]], fr b] S Q E := by
  refine e_moved ?_
  unfold t_moved
  walk_at "bl"
  refine plus_raw hu st su hb hn ?_
  walk_at "bl"
  exact k
/-- compare, by what the first is moved to -/
theorem compare_core {d : D} {x y : Rt} {n m : Nat} {S : Sto} {Q : DK} {E : EK} (hmv : ∀ {Q : DK} {E : EK}, Q (rt ⟨x.b + -y.b, x.s, x.q⟩) S → m_moved [d, fr (-y.b)] S Q E) (hx : Ok x) (hy : Ok y) (nb : sr n (x.b + -y.b)) (xq : sr m x.q) (yq : sr m y.q) (hn : 2 * n + 3 * m ≤ 4350) (k : Q (.int (sg (val x - val y))) S) : m_compare [d, rt y] S Q E := by
  refine e_compare ?_
  unfold t_compare
  rw [← cmp_law hx hy] at k
  unfold cmpS at k
  have sy : sm 2 y.s := by have := hy.s; unfold sm; omega
  walk_at "bl"
  rw [neg_fr]
  refine hmv ?_
  walk_at "bl"
  refine root_sign_spec (x := ⟨x.b + -y.b, x.s, x.q⟩) nb xq hx.s hx.q0 (by omega) ?_
  have sg2 : sm 2 (sg (val ⟨x.b + -y.b, x.s, x.q⟩)) := by
    rcases sg_cases (val ⟨x.b + -y.b, x.s, x.q⟩) with ⟨_, e⟩ | ⟨_, e⟩ | ⟨_, e⟩ <;> rw [e] <;> exact sm.of (by decide)
  walk_at "bl"
  refine Go.ifD (fun h1 => ?_) fun h1 => ?_
  · rw [if_pos h1] at k
    walk_at "bl"
    exact k
  · rw [if_neg h1] at k
    walk_at "bl"
    refine Go.mul (sg2.cmul sy (by decide)) ?_
    walk_at "bl"
    refine Go.ifD (fun h2 => ?_) fun h2 => ?_
    · rw [if_pos h2] at k
      walk_at "bl"
      refine Go.ifD (fun h3 => ?_) fun h3 => ?_
      · rw [if_neg (fun z => z h3)] at k
        walk_at "bl"
        exact k
      · rw [if_pos h3] at k
        walk_at "bl"
        exact k
    · rw [if_neg h2] at k
      walk_at "bl"
      refine squared_less_spec (x := ⟨x.b + -y.b, x.s, x.q⟩) nb xq hx.s hx.q0 yq (by omega) ?_
      walk_at "bl"
      obtain ⟨a, b, c, d⟩ := less_sr (x := ⟨x.b + -y.b, x.s, x.q⟩) nb xq hx.s hx.q0 yq
      refine root_sign_spec a b d c (by omega) ?_
      walk_at "bl"
      refine Go.mul (sy.cmul (n := 2) ?_ (by decide)) ?_
      · rcases sg_cases (val (lessS ⟨x.b + -y.b, x.s, x.q⟩ y.q)) with ⟨_, e⟩ | ⟨_, e⟩ | ⟨_, e⟩ <;> rw [e] <;> exact sm.of (by decide)
      walk_at "bl"
      exact k
theorem compare_raw {t u : Int} {y : Rt} {n m : Nat} {S : Sto} {Q : DK} {E : EK} (hu : u ≠ 0) (st : sm n t) (su : sm n u) (hy : Ok y) (yb : sr m y.b) (yq : sr m y.q) (hn : 2 * n + 5 * m + 2 ≤ 4350) (k : Q (.int (sg (Real.of ((t : Rat) / (u : Rat)) - val y))) S) : m_compare [.tup [.tup [.int t, .int u], .int 0, .tup [.int 0, .int 1]], rt y] S Q E := by
  have e1 : (t : Rat) / (u : Rat) * (u : Rat) = (t : Rat) := Rat.div_mul_cancel (castne hu)
  obtain ⟨z1, z2⟩ := low_sm hu e1 st su
  have hr : sr n ((t : Rat) / (u : Rat)) := ⟨z1, z2⟩
  have m1 : 1 ≤ m := by
    false_or_by_contra
    rename_i h
    have e : m = 0 := by omega
    subst e
    have := yb.d
    have := y.b.den_pos
    unfold sm at *
    omega
  refine compare_core (x := ⟨(t : Rat) / (u : Rat), 0, 0⟩) (y := y) (fun h => moved_raw hu st su yb.neg (by omega) h) (ok_fr0 _) hy (hr.add yb.neg) ((sr.zero (m := 0)).mono m1) yq (by omega) ?_
  rw [val_fr]
  exact k
/-- .. with a whole number -/
theorem compare_int {x : Rt} {f : Int} {n m l : Nat} {S : Sto} {Q : DK} {E : EK} (hx : Ok x) (xb : sr n x.b) (xq : sr m x.q) (hf : sm l f) (h1 : n + l + 3 ≤ 8900) (h2 : n + l + 2 * m + 10 ≤ 20000) (k : Q (.int (sg (val x - Real.of (f : Rat)))) S) : m_compare [rt x, .tup [.tup [.int f, .int 1], .int 0, .tup [.int 0, .int 1]]] S Q E := by
  refine e_compare ?_
  unfold t_compare
  walk_at "bl"
  have e : D.tup [.int (0 - f), .int 1] = fr ((-f : Int) : Rat) := by
    rw [Int.zero_sub]
    rfl
  rw [e]
  have sf : sr (l + 1) ((-f : Int) : Rat) := sr.int (hf.neg.mono (by omega)) (by omega)
  refine e_moved ?_
  unfold t_moved
  walk_at "bl"
  refine plus_mn xb sf (by omega) ?_
  walk_at "bl"
  refine root_sign_spec (x := ⟨x.b + ((-f : Int) : Rat), x.s, x.q⟩) (xb.add sf) xq hx.s hx.q0 (by omega) ?_
  rw [move_val, ofI_neg, show val x + -Real.of (f : Rat) = val x - Real.of (f : Rat) by grind]
  walk_at "bl"
  refine Go.ifD (fun _ => ?_) fun h => absurd rfl h
  walk_at "bl"
  exact k
theorem floor_of_spec {x : Rt} {n m : Nat} {S : Sto} {Q : DK} {E : EK} (hx : Ok x) (hb : sr n x.b) (hq : sr m x.q) (hn : 2 * n + m + 20 ≤ 8900) (hm : m ≤ 5000) (k : ∀ f : Int, Real.of (f : Rat) ≤ val x → val x < Real.of (f : Rat) + 1 → Q (.int f) S) : m_floor_of [rt x] S Q E := by
  refine e_floor_of ?_
  unfold t_floor_of
  have pb := den_pos x.b
  have pq := den_pos x.q
  have q0 := Rat.num_nonneg.mpr hx.q0
  have f0 : 0 ≤ x.q.num / (x.q.den : Int) := Int.ediv_nonneg q0 (by omega)
  have fs : sm m (x.q.num / (x.q.den : Int)) := by
    have := Int.ediv_le_self (x.q.den : Int) q0
    have := hq.n
    unfold sm at *
    omega
  have bs : sm (n + 1) (x.b.num / (x.b.den : Int)) := by
    have h := hb.n
    unfold sm at h ⊢
    rw [Nat.pow_succ]
    have h1 := Int.ediv_mul_le x.b.num (show (x.b.den : Int) ≠ 0 by omega)
    have h2 := Int.lt_ediv_add_one_mul_self x.b.num pb
    generalize x.b.num / (x.b.den : Int) = z at *
    rcases Int.le_total 0 z with w | w
    · have := Int.mul_le_mul_of_nonneg_left (show 1 ≤ (x.b.den : Int) by omega) w
      omega
    · have := Int.mul_le_mul_of_nonneg_left (show 1 ≤ (x.b.den : Int) by omega) (show 0 ≤ -(z + 1) + 1 by omega)
      rcases Int.lt_or_le z (-1) with v | v
      · have := Int.mul_le_mul_of_nonneg_left (show 1 ≤ (x.b.den : Int) by omega) (show 0 ≤ -(z + 1) by omega)
        simp only [Int.neg_mul] at this
        omega
      · omega
  obtain ⟨v1, v2⟩ := fl_val hx
  have is := isq_sm f0 fs
  have ss : sm 2 x.s := by have := hx.s; unfold sm; omega
  walk_at "bl"
  refine Go.div (hb.d.cdiv (by omega) (by omega)) ?_
  walk_at "bl"
  refine Go.div (hq.d.cdiv (by omega) (by omega)) ?_
  walk_at "bl"
  rw [Int.fdiv_eq_ediv_of_nonneg x.b.num (by omega), Int.fdiv_eq_ediv_of_nonneg x.q.num (by omega)]
  refine whole_root_spec f0 fs (by omega) ?_
  walk_at "bl"
  refine Go.mul (ss.cmul is (by omega)) ?_
  walk_at "bl"
  have Fs : sm (n + m + 4) (x.b.num / (x.b.den : Int) + x.s * ((isq (x.q.num / (x.q.den : Int)).toNat : Nat) : Int)) := ((bs.mono (show n + 1 ≤ n + m + 3 by omega)).add ((ss.mul is).mono (by omega)))
  generalize x.b.num / (x.b.den : Int) + x.s * ((isq (x.q.num / (x.q.den : Int)).toNat : Nat) : Int) = F at *
  have Gs : ∀ i : Int, -2 ≤ i → i ≤ 2 → sm (n + m + 6) (F + i) := fun i h1 h2 => ((Fs.mono (show n + m + 4 ≤ n + m + 5 by omega)).add ((show sm 2 i by unfold sm; omega).mono (by omega)))
  refine Go.while' (fun j e s => ∃ i : Nat, e = [some (rt x), some (fr x.b), some (.int x.s), some (fr x.q), some (.int (F - (i : Int)))] ∧ s = S ∧ i ≤ 1 ∧ j = 1 - i) 1 ⟨0, by rw [show F - ((0 : Nat) : Int) = F by omega], rfl, by omega, rfl⟩ ?_
  rintro j e S0 ⟨i, rfl, rfl, hi, rfl⟩
  walk_at "bl"
  have s1 : sm (n + m + 6) (F - (i : Int)) := by rw [Int.sub_eq_add_neg]; exact Gs _ (by omega) (by omega)
  refine compare_int hx hb hq s1 (by omega) (by omega) ?_
  walk_at "bl"
  refine Go.ifD (fun h => ?_) fun h => ?_
  · walk_at "bl"
    have i0 : i = 0 := by
      false_or_by_contra
      have i1 : i = 1 := by omega
      subst i1
      rw [of_int_sub, show Real.of (((1 : Nat) : Int) : Rat) = 1 from rfl] at h
      rcases sg_cases (val x - (Real.of (F : Rat) - 1)) with ⟨a, b⟩ | ⟨a, b⟩ | ⟨a, b⟩
      · omega
      · omega
      · grind
    subst i0
    exact ⟨_, (by omega : 0 < 1), 1, by rw [show F - ((0 : Nat) : Int) - 1 = F - ((1 : Nat) : Int) by omega], rfl, by omega, rfl⟩
  · have hG : Real.of ((F - (i : Int) : Int) : Rat) ≤ val x := by
      rcases sg_cases (val x - Real.of ((F - (i : Int) : Int) : Rat)) with ⟨a, b⟩ | ⟨a, b⟩ | ⟨a, b⟩
      · grind
      · grind
      · omega
    obtain ⟨G, hGe⟩ : ∃ G, G = F - (i : Int) := ⟨_, rfl⟩
    rw [← hGe] at hG ⊢
    have hG2 : F - 1 ≤ G := by omega
    have hG3 : G ≤ F := by omega
    walk_at "bl"
    refine Go.while' (fun j e s => ∃ g : Int, e = [some (rt x), some (fr x.b), some (.int x.s), some (fr x.q), some (.int g)] ∧ s = S0 ∧ G ≤ g ∧ g ≤ F + 1 ∧ Real.of (g : Rat) ≤ val x ∧ j = (F + 1 - g).toNat) (F + 1 - G).toNat ⟨G, rfl, rfl, by omega, by omega, hG, rfl⟩ ?_
    rintro j e s ⟨g, rfl, rfl, g1, g2, g3, rfl⟩
    walk_at "bl"
    have s2 : sm (n + m + 6) (g + 1) := by
      have := Gs (g + 1 - F) (by omega) (by omega)
      rw [show F + (g + 1 - F) = g + 1 by omega] at this
      exact this
    refine compare_int hx hb hq s2 (by omega) (by omega) ?_
    rw [ofI_add, of_int1]
    walk_at "bl"
    refine Go.ifD (fun h => ?_) fun h => ?_
    · have h' : Real.of (g : Rat) + 1 ≤ val x := by
        rcases sg_cases (val x - (Real.of (g : Rat) + 1)) with ⟨a, b⟩ | ⟨a, b⟩ | ⟨a, b⟩
        · grind
        · grind
        · omega
      have gF : g ≠ F + 1 := fun z => by
        rw [z, ofI_add, of_int1] at h'
        grind
      walk_at "bl"
      exact ⟨_, (by omega : (F + 1 - (g + 1)).toNat < (F + 1 - g).toNat), g + 1, rfl, rfl, by omega, by omega, by rw [ofI_add, of_int1]; exact h', rfl⟩
    · have h' : val x < Real.of (g : Rat) + 1 := by
        rcases sg_cases (val x - (Real.of (g : Rat) + 1)) with ⟨a, b⟩ | ⟨a, b⟩ | ⟨a, b⟩
        · omega
        · omega
        · grind
      walk_at "bl"
      exact k g g3 h'
end Lr

namespace Lr
open PySem PySem.Spec PyProof.Rows L2 Bl Lb Rl
local macro_rules | `(tactic| walk_at "bl0") => `(tactic| (with_reducible (first
  | (refine Go.gVr ?_; first | refine Go.vr0 ?_ | refine Go.vr1 ?_ | refine Go.vr2 ?_ | refine Go.vr3 ?_ | refine Go.vr4 ?_ | refine Go.vr5 ?_ | refine Go.vr6 ?_ | refine Go.vr7 ?_ | refine Go.vr8 ?_ | refine Go.vr9 ?_ | refine Go.vr10 ?_ | refine Go.vr11 ?_ | refine Go.vr12 ?_ | refine Go.vr13 ?_ | refine Go.vr14 ?_ | refine Go.vr15 ?_ | refine Go.vr16 ?_ | refine Go.vr17 ?_ | refine Go.vr18 ?_ | refine Go.vr19 ?_ | refine Go.vr20 ?_ | refine Go.vr21 ?_ | refine Go.vr22 ?_ | refine Go.vr23 ?_)
  | refine Go.seq ?_
  | refine Go.nx' ?_
  | refine Go.ret ?_
  | refine Go.if' ?_
  | refine Go.asg ?_
  | refine Go.par ?_
  | refine Go.drop ?_
  | refine Go.brk ?_
  | refine Go.cnt ?_
  | refine Go.raise ?_
  | refine Go.thru ?_
  | refine Go.tryAs ?_
  | refine Go.for' ?_
  | refine Go.sub ?_
  | refine Go.retN ?_
  | refine Go.par_cons ?_
  | refine Go.par_nil ?_
  | refine Go.cn' ?_
  | refine Go.two ?_
  | refine Go.nil ?_
  | refine Go.cons ?_
  | refine Go.tup ?_
  | refine Go.lst ?_
  | refine Go.lstR ?_
  | refine Go.tbl' ?_
  | refine Go.tblK' ?_
  | refine Go.ttr' ?_
  | refine Go.truB ?_
  | refine Go.truI ?_
  | refine Go.truN ?_
  | refine Go.and' ?_
  | refine Go.or' ?_
  | refine Go.not' ?_
  | refine Go.vOf' ?_
  | refine Go.vNot' ?_
  | refine Go.eIf' ?_
  | refine Go.ifT ?_
  | refine Go.ifF ?_
  | refine Go.ifN ?_
  | refine Go.add ?_
  | refine Go.sub' ?_
  | refine Go.lt ?_
  | refine Go.le ?_
  | refine Go.gt ?_
  | refine Go.ge ?_
  | refine Go.eqI ?_
  | refine Go.neI ?_
  | refine Go.is' ?_
  | refine Go.isNot' ?_
  | refine Go.chain ?_
  | refine Go.dB' ?_
  | refine Go.neg ?_
  | refine Go.neg' ?_
  | refine Go.abs' ?_
  | refine Go.lenT ?_
  | refine Go.lenL ?_
  | refine Go.max' ?_
  | refine Go.min' ?_
  | refine Go.intI ?_
  | refine Go.intB ?_
  | refine Go.tupL ?_
  | refine Go.tupT ?_
  | refine Go.isi ?_
  | refine Go.call ?_
  | refine Go.iVal' ?_
  | refine Go.iValT ?_
  | refine Go.iValL ?_
  | refine Go.r1 ?_
  | refine Go.r2 ?_
  | refine Go.star ?_
  | refine Go.l_cons ?_
  | refine Go.l_nil ?_
  | refine Go.enum' ?_
  | refine Go.rev' ?_
  | refine Go.zip' ?_
  | refine Go.wipe_nil ?_
  | refine Go.wipe_cons ?_
  | refine Go.iadd ?_
  | refine Go.sl ?_
  | refine Go.oN ?_
  | refine Go.oS ?_
  | refine Go.osK' ?_
  | refine Go.getL ?_
  | refine Go.lc ?_
  | refine Go.lcR ?_
  | refine Go.lg_nil ?_
  | refine Go.lg_cons ?_
  | refine Go.yes ?_
  | refine Go.for_nil ?_
  | refine Go.for_cons ?_
  | refine Go.revT ?_
  | refine Go.revL ?_
  | refine Go.zipT ?_
  | refine Go.zipL ?_
  | refine Go.tupK' rfl ?_
  | refine Go.lstK' rfl ?_
  | refine Go.callK' rfl rfl ?_
  | refine Go.lcL rfl ?_
  | refine Go.getLL' rfl ?_
  | refine Go.addT rfl ?_
  | (refine Go.gAsg ?_; first | refine Go.set0 ?_ | refine Go.set1 ?_ | refine Go.set2 ?_ | refine Go.set3 ?_ | refine Go.set4 ?_ | refine Go.set5 ?_ | refine Go.set6 ?_ | refine Go.set7 ?_ | refine Go.set8 ?_ | refine Go.set9 ?_ | refine Go.set10 ?_ | refine Go.set11 ?_ | refine Go.set12 ?_ | refine Go.set13 ?_ | refine Go.set14 ?_ | refine Go.set15 ?_ | refine Go.set16 ?_ | refine Go.set17 ?_ | refine Go.set18 ?_ | refine Go.set19 ?_ | refine Go.set20 ?_ | refine Go.set21 ?_ | refine Go.set22 ?_ | refine Go.set23 ?_ | refine Go.tp_cons ?_ | refine Go.tp_nil ?_)
  | (refine Go.gIxT ?_; first | refine Go.ixT0 ?_ | refine Go.ixT1 ?_ | refine Go.ixT2 ?_ | refine Go.ixT3 ?_ | refine Go.ixT4 ?_ | refine Go.ixT5 ?_ | refine Go.ixT6 ?_ | refine Go.ixT7 ?_)
  | (refine Go.gIxL ?_; first | refine Go.ixL0 ?_ | refine Go.ixL1 ?_ | refine Go.ixL2 ?_ | refine Go.ixL3 ?_ | refine Go.ixL4 ?_ | refine Go.ixL5 ?_ | refine Go.ixL6 ?_ | refine Go.ixL7 ?_)
  | (refine Go.gAug ?_; first | refine Go.aug0 ?_ | refine Go.aug1 ?_ | refine Go.aug2 ?_ | refine Go.aug3 ?_ | refine Go.aug4 ?_ | refine Go.aug5 ?_ | refine Go.aug6 ?_ | refine Go.aug7 ?_ | refine Go.aug8 ?_ | refine Go.aug9 ?_ | refine Go.aug10 ?_ | refine Go.aug11 ?_ | refine Go.aug12 ?_ | refine Go.aug13 ?_ | refine Go.aug14 ?_ | refine Go.aug15 ?_ | refine Go.aug16 ?_ | refine Go.aug17 ?_ | refine Go.aug18 ?_ | refine Go.aug19 ?_ | refine Go.aug20 ?_ | refine Go.aug21 ?_ | refine Go.aug22 ?_ | refine Go.aug23 ?_)
  | (refine Go.gStar ?_; first | refine Go.startup0 ?_ | refine Go.starlst0 ?_ | refine Go.startup1 ?_ | refine Go.starlst1 ?_ | refine Go.startup2 ?_ | refine Go.starlst2 ?_ | refine Go.startup3 ?_ | refine Go.starlst3 ?_ | refine Go.startup4 ?_ | refine Go.starlst4 ?_ | refine Go.startup_2 ?_ | refine Go.starlst_2 ?_ | refine Go.startup_3 ?_ | refine Go.starlst_3 ?_ | refine Go.startup_4 ?_ | refine Go.starlst_4 ?_)
  | refine Go.slfT1 ?_ | refine Go.sltT1 ?_ | refine Go.slfL1 ?_ | refine Go.sltL1 ?_ | refine Go.slfT2 ?_ | refine Go.sltT2 ?_ | refine Go.slfL2 ?_ | refine Go.sltL2 ?_ | refine Go.slfT3 ?_ | refine Go.sltT3 ?_ | refine Go.slfL3 ?_ | refine Go.sltL3 ?_ | refine Go.slfT4 ?_ | refine Go.sltT4 ?_ | refine Go.slfL4 ?_ | refine Go.sltL4 ?_
  | (refine Go.gUns ?_; first | refine Go.uns0 ?_ | refine Go.uns1 ?_ | refine Go.uns2 ?_ | refine Go.uns3 ?_ | refine Go.uns4 ?_ | refine Go.uns5 ?_ | refine Go.uns6 ?_ | refine Go.uns7 ?_ | refine Go.uns8 ?_ | refine Go.uns9 ?_ | refine Go.uns10 ?_ | refine Go.uns11 ?_ | refine Go.uns12 ?_ | refine Go.uns13 ?_ | refine Go.uns14 ?_ | refine Go.uns15 ?_ | refine Go.uns16 ?_ | refine Go.uns17 ?_ | refine Go.uns18 ?_ | refine Go.uns19 ?_ | refine Go.uns20 ?_ | refine Go.uns21 ?_ | refine Go.uns22 ?_ | refine Go.uns23 ?_)
  | refine Go.entup0 ?_ | refine Go.enlst0 ?_ | refine Go.entup1 ?_ | refine Go.enlst1 ?_ | refine Go.entup2 ?_ | refine Go.enlst2 ?_ | refine Go.entup3 ?_ | refine Go.enlst3 ?_ | refine Go.entup4 ?_ | refine Go.enlst4 ?_ | refine Go.entup5 ?_ | refine Go.enlst5 ?_ | refine Go.entup6 ?_ | refine Go.enlst6 ?_)))
local macro_rules | `(tactic| walk_at "bl1") => `(tactic| first | ((with_reducible refine Go.gEqS ?_); (first | refine Go.eqS (b := true) ⟨rfl, by decide +kernel⟩ ⟨rfl, by decide +kernel⟩ rfl ?_ | refine Go.eqS (b := false) ⟨rfl, by decide +kernel⟩ ⟨rfl, by decide +kernel⟩ rfl ?_)) | ((with_reducible refine Go.gNeS ?_); (first | refine Go.neS (b := true) ⟨rfl, by decide +kernel⟩ ⟨rfl, by decide +kernel⟩ rfl ?_ | refine Go.neS (b := false) ⟨rfl, by decide +kernel⟩ ⟨rfl, by decide +kernel⟩ rfl ?_)) | walk_at "bl0" | ((with_reducible refine Go.gAll ?_); (refine Go.allB (by rfl) ?_)) | ((with_reducible refine Go.gIxT ?_); (refine Go.ixT (by rfl) ?_)) | ((with_reducible refine Go.gIxL ?_); (refine Go.ixL (by rfl) ?_)))
local macro_rules | `(tactic| walk_at "bl") => `(tactic| (repeat walk_at "bl1"))
local macro_rules | `(tactic| walk_at "bl0") => `(tactic| (with_reducible (first | refine Go.zipS' ?_ | refine Go.zipR' ?_ | refine Go.seqT ?_ | refine Go.seqL ?_ | refine Go.zipST rfl ?_ | refine Go.zipSL rfl ?_ | refine Go.for_zc ?_ | refine Go.for_zn ?_ | refine Go.lg_zc ?_ | refine Go.lg_zn ?_)))
theorem pow2_sm (i : Nat) : sm (i + 1) (2 ^ i) := by
  unfold sm
  rw [Int.natAbs_pow]
  exact Nat.pow_lt_pow_right (by decide) (by omega)
theorem sm_of_real {n : Nat} {f : Int} (h1 : -Real.of ((2 ^ n : Int) : Rat) < Real.of (f : Rat)) (h2 : Real.of (f : Rat) < Real.of ((2 ^ n : Int) : Rat)) : sm n f := by
  rw [← ofI_neg, ofI_lt] at h1
  rw [ofI_lt] at h2
  have hp : ((2 : Int) ^ n) = ((2 ^ n : Nat) : Int) := by push_cast; rfl
  rw [hp] at h1 h2
  unfold sm
  omega
theorem pow2_le {a b : Nat} (h : a ≤ b) : (2 : Int) ^ a ≤ 2 ^ b := by
  have : (2 : Nat) ^ a ≤ 2 ^ b := Nat.pow_le_pow_right (by decide) h
  exact_mod_cast this
/-- a drawn root's size -/
theorem gd_lt {x : Rt} (h : Gd x) : -Real.of ((2 ^ 121 : Int) : Rat) < val x ∧ val x < Real.of ((2 ^ 121 : Int) : Rat) := by
  obtain ⟨b1, b2⟩ := sr_lt h.b
  have u := s_le h.ok
  have ru := rt_lt (m := 21) h.ok.q0 h.q
  have big : Real.of ((2 ^ 120 : Int) : Rat) + Real.of ((2 ^ 21 : Int) : Rat) ≤ Real.of ((2 ^ 121 : Int) : Rat) := by
    rw [← ofI_add, ofI_le]
    decide +kernel
  have ev1 : val x = Real.of x.b + Real.of (x.s : Rat) * rtq x.q := rfl
  rw [ev1]
  exact ⟨by grind, by grind⟩
theorem ofI_mul2 (a b : Nat) : Real.of ((2 ^ (a + b) : Int) : Rat) = Real.of ((2 ^ a : Int) : Rat) * Real.of ((2 ^ b : Int) : Rat) := by
  rw [Int.pow_add, of_int_mul]
theorem sg_lt {a b : Real} : sg (a - b) < 0 ↔ a < b := by
  rcases sg_cases (a - b) with ⟨h, e⟩ | ⟨h, e⟩ | ⟨h, e⟩
  · rw [e]; exact ⟨fun z => by omega, fun z => by grind⟩
  · rw [e]; exact ⟨fun z => by omega, fun z => by grind⟩
  · rw [e]; exact ⟨fun _ => by grind, fun _ => by omega⟩
theorem mul_lt_r {a b c : Real} (hc : 0 < c) (h : a < b) : a * c < b * c := by
  have := Real.mul_pos (show 0 < b - a by grind) hc
  grind
theorem lt_of_mul {a b c : Real} (hc : 0 < c) (h : a * c < b * c) : a < b := by
  rcases Real.tri' a b with z | z | z
  · exact z
  · rw [z] at h; grind
  · have := mul_lt_r hc z; grind
/-- the loop of between: low below high -/
theorem between_loop {x y : Rt} (hx : Gd x) (hy : Gd y) (hlt : val x < val y) (hne : x ≠ y) {S : Sto} {e0 e1 o5 : Option D} {N : Nd} (k : ∀ r : Rat, sr 1725 r → sm 1602 r.den → val x < Real.of r → Real.of r < val y → N.rt (fr r) S) :
    (sWhile (ttr (cn (.bl true))) (sSeq (sAsg (dTwo (dCall m_floor_of 1 0 (fun ds _ => ds) (aCons (dCall m_scaled 2 0 (fun ds _ => ds) (aCons (vr 2) (aCons (dTup (aCons (vr 4) (aCons (cn (.int 1)) (aNil)))) (aNil))) aNil) (aNil)) aNil) (cn (.int 1)) fAdd) (.nm 5)) (sSeq (sIf (tbl (dTwo (dCall m_compare 2 0 (fun ds _ => ds) (aCons (dTup (aCons (dTup (aCons (vr 5) (aCons (vr 4) (aNil)))) (aCons (cn (.int 0)) (aCons (cn k_ZERO) (aNil))))) (aCons (vr 3) (aNil))) aNil) (cn (.int 0)) fLt)) (sRet (dCall m_frac 2 0 (fun ds _ => ds ++ []) (aCons (vr 5) (aCons (vr 4) (aNil))) aNil)) (sNx)) (sAug 4 (cn (.int 2)) fMul)))) [e0, e1, some (rt x), some (rt y), some (.int 1), o5] S N := by
  obtain ⟨nx, rr, bk, ct, ex⟩ := N
  refine Go.while' (fun j e s => ∃ (i : Nat) (o : Option D), e = [e0, e1, some (rt x), some (rt y), some (.int (2 ^ i)), o] ∧ s = S ∧ i ≤ 1601 ∧ j = 1601 - i) 1601 ⟨0, o5, rfl, rfl, by omega, rfl⟩ ?_
  rintro j e s ⟨i, o, rfl, rfl, hi, rfl⟩
  have p0 : (0 : Int) < 2 ^ i := Int.pow_pos (by decide)
  have ps := pow2_sm i
  have g0 : ((2 ^ i : Int) : Rat) ≠ 0 := castne (by omega)
  have gp : 0 < Real.of ((2 ^ i : Int) : Rat) := int_pos.mpr p0
  have sg1 : sr (i + 1) ((2 ^ i : Int) : Rat) := sr.int ps (by omega)
  walk_at "bl"
  have sz : sr 1722 (x.b * ((2 ^ i : Int) : Rat)) := (hx.b.mul sg1).mono (by omega)
  have sq : sr 3246 (x.q * (((2 ^ i : Int) : Rat) * ((2 ^ i : Int) : Rat))) := (hx.q.mul (sg1.mul sg1)).mono (by omega)
  refine scaled_pr (x := x) (y := ((2 ^ i : Int) : Rat)) (n := 120) rfl rfl hx.b (hx.q.mono (by decide)) sg1 hx.ok.q0 hx.ok.s (by omega) ?_
  rw [scale_cn hx.cn g0]
  walk_at "bl"
  refine floor_of_spec (scale_ok hx.ok g0) sz sq (by decide) (by decide) fun f f1 f2 => ?_
  rw [scale_val hx.ok g0] at f1 f2
  walk_at "bl"
  obtain ⟨b1, b2⟩ := gd_lt hx
  have fs : sm 1723 (f + 1) := by
    refine sm_of_real ?_ ?_
    · rw [ofI_add, of_int1]
      have a1 := mul_lt_r gp b1
      have a2 : Real.of ((2 ^ 121 : Int) : Rat) * Real.of ((2 ^ i : Int) : Rat) ≤ Real.of ((2 ^ 1722 : Int) : Rat) := by
        rw [← ofI_mul2, ofI_le]
        exact pow2_le (by omega)
      have a3 : Real.of ((2 ^ 1722 : Int) : Rat) ≤ Real.of ((2 ^ 1723 : Int) : Rat) := by
        rw [ofI_le]
        exact pow2_le (by omega)
      grind
    · rw [ofI_add, of_int1]
      have a1 := mul_lt_r gp b2
      have a2 : Real.of ((2 ^ 121 : Int) : Rat) * Real.of ((2 ^ i : Int) : Rat) ≤ Real.of ((2 ^ 1722 : Int) : Rat) := by
        rw [← ofI_mul2, ofI_le]
        exact pow2_le (by omega)
      have a3 : Real.of ((2 ^ 1722 : Int) : Rat) + 1 ≤ Real.of ((2 ^ 1723 : Int) : Rat) := by
        rw [← of_int1, ← ofI_add, ofI_le]
        decide +kernel
      grind
  have ps2 : sm 1602 (2 ^ i : Int) := ps.mono (by omega)
  refine compare_raw (n := 1723) (m := 120) (by omega) fs (ps2.mono (by decide)) hy.ok hy.b (hy.q.mono (by decide)) (by decide) ?_
  have er : ((f + 1 : Int) : Rat) / ((2 ^ i : Int) : Rat) * ((2 ^ i : Int) : Rat) = ((f + 1 : Int) : Rat) := Rat.div_mul_cancel g0
  obtain ⟨z1, z2⟩ := low_sm (by omega) er fs ps2
  have erR := congrArg Real.of er
  rw [Real.of_mul, ofI_add, of_int1] at erR
  generalize ((f + 1 : Int) : Rat) / ((2 ^ i : Int) : Rat) = r at *
  walk_at "bl"
  refine Go.ifD (fun h => ?_) fun h => ?_
  · walk_at "bl"
    refine frac_spec (n := 1723) (by omega) fs (ps2.mono (by decide)) (by decide) er (k r ⟨z1.mono (by decide), z2.mono (by decide)⟩ z2 ?_ (sg_lt.mp h))
    refine lt_of_mul gp ?_
    rw [erR]
    exact f2
  · walk_at "bl"
    have i6 : i ≠ 1601 := fun z => by
      subst z
      apply h
      rw [sg_lt]
      refine lt_of_mul gp ?_
      rw [erR]
      have ap := apart hx.ok hy.ok hx.cn hy.cn hx.b hy.b hx.q hy.q hne
      have pp := pow_pos' 1600
      have e2 : Real.of ((2 ^ 1601 : Int) : Rat) = Real.of ((2 ^ 1600 : Int) : Rat) * 2 := ofI_mul2 1600 1
      rw [e2] at f1 ⊢
      generalize Real.of ((2 ^ 1600 : Int) : Rat) = P at *
      have l1 : (val x - val y) * P ≤ -1 := by
        rcases ap with a | a
        · have := Real.mul_pos (show 0 < val y - val x by grind) pp
          grind
        · exact a
      grind
    refine Go.mul (ps.cmul (sm.of (n := 2) (by decide)) (by omega)) ?_
    walk_at "bl"
    exact ⟨_, (by omega : 1601 - (i + 1) < 1601 - i), i + 1, _, by rw [Int.pow_succ], rfl, by omega, rfl⟩
theorem between_spec {x y : Rt} {S : Sto} {Q : DK} {E : EK} (hx : Gd x) (hy : Gd y) (hne : x ≠ y) (k : ∀ r : Rat, sr 1725 r → sm 1602 r.den → ((val x < Real.of r ∧ Real.of r < val y) ∨ (val y < Real.of r ∧ Real.of r < val x)) → Q (fr r) S) : m_between [rt x, rt y] S Q E := by
  refine e_between ?_
  unfold t_between
  walk_at "bl"
  refine compare_spec hx.ok hy.ok hx.b (hx.q.mono (show 42 ≤ 42 by decide)) hy.b hy.q (by decide) ?_
  walk_at "bl"
  refine Go.ifD (fun h => ?_) fun h => ?_
  · walk_at "bl"
    rw [sg_lt] at h
    exact between_loop hx hy h hne fun r a b c d => k r a b (.inl ⟨c, d⟩)
  · walk_at "bl"
    have h' : val y < val x := by
      rcases Real.tri' (val x) (val y) with z | z | z
      · exact absurd (sg_lt.mpr z) h
      · have ap := apart hx.ok hy.ok hx.cn hy.cn hx.b hy.b hx.q hy.q hne
        rw [z] at ap
        rcases ap with a | a
        · grind
        · grind
      · exact z
    exact between_loop hy hx h' (Ne.symm hne) fun r a b c d => k r a b (.inr ⟨c, d⟩)
end Lr

namespace Lr
open PySem PySem.Spec PyProof.Rows L2 Bl Lb Rl
local macro_rules | `(tactic| walk_at "bl0") => `(tactic| (with_reducible (first
  | (refine Go.gVr ?_; first | refine Go.vr0 ?_ | refine Go.vr1 ?_ | refine Go.vr2 ?_ | refine Go.vr3 ?_ | refine Go.vr4 ?_ | refine Go.vr5 ?_ | refine Go.vr6 ?_ | refine Go.vr7 ?_ | refine Go.vr8 ?_ | refine Go.vr9 ?_ | refine Go.vr10 ?_ | refine Go.vr11 ?_ | refine Go.vr12 ?_ | refine Go.vr13 ?_ | refine Go.vr14 ?_ | refine Go.vr15 ?_ | refine Go.vr16 ?_ | refine Go.vr17 ?_ | refine Go.vr18 ?_ | refine Go.vr19 ?_ | refine Go.vr20 ?_ | refine Go.vr21 ?_ | refine Go.vr22 ?_ | refine Go.vr23 ?_)
  | refine Go.seq ?_
  | refine Go.nx' ?_
  | refine Go.ret ?_
  | refine Go.if' ?_
  | refine Go.asg ?_
  | refine Go.par ?_
  | refine Go.drop ?_
  | refine Go.brk ?_
  | refine Go.cnt ?_
  | refine Go.raise ?_
  | refine Go.thru ?_
  | refine Go.tryAs ?_
  | refine Go.for' ?_
  | refine Go.sub ?_
  | refine Go.retN ?_
  | refine Go.par_cons ?_
  | refine Go.par_nil ?_
  | refine Go.cn' ?_
  | refine Go.two ?_
  | refine Go.nil ?_
  | refine Go.cons ?_
  | refine Go.tup ?_
  | refine Go.lst ?_
  | refine Go.lstR ?_
  | refine Go.tbl' ?_
  | refine Go.tblK' ?_
  | refine Go.ttr' ?_
  | refine Go.truB ?_
  | refine Go.truI ?_
  | refine Go.truN ?_
  | refine Go.and' ?_
  | refine Go.or' ?_
  | refine Go.not' ?_
  | refine Go.vOf' ?_
  | refine Go.vNot' ?_
  | refine Go.eIf' ?_
  | refine Go.ifT ?_
  | refine Go.ifF ?_
  | refine Go.ifN ?_
  | refine Go.add ?_
  | refine Go.sub' ?_
  | refine Go.lt ?_
  | refine Go.le ?_
  | refine Go.gt ?_
  | refine Go.ge ?_
  | refine Go.eqI ?_
  | refine Go.neI ?_
  | refine Go.is' ?_
  | refine Go.isNot' ?_
  | refine Go.chain ?_
  | refine Go.dB' ?_
  | refine Go.neg ?_
  | refine Go.neg' ?_
  | refine Go.abs' ?_
  | refine Go.lenT ?_
  | refine Go.lenL ?_
  | refine Go.max' ?_
  | refine Go.min' ?_
  | refine Go.intI ?_
  | refine Go.intB ?_
  | refine Go.tupL ?_
  | refine Go.tupT ?_
  | refine Go.isi ?_
  | refine Go.call ?_
  | refine Go.iVal' ?_
  | refine Go.iValT ?_
  | refine Go.iValL ?_
  | refine Go.r1 ?_
  | refine Go.r2 ?_
  | refine Go.star ?_
  | refine Go.l_cons ?_
  | refine Go.l_nil ?_
  | refine Go.enum' ?_
  | refine Go.rev' ?_
  | refine Go.zip' ?_
  | refine Go.wipe_nil ?_
  | refine Go.wipe_cons ?_
  | refine Go.iadd ?_
  | refine Go.sl ?_
  | refine Go.oN ?_
  | refine Go.oS ?_
  | refine Go.osK' ?_
  | refine Go.getL ?_
  | refine Go.lc ?_
  | refine Go.lcR ?_
  | refine Go.lg_nil ?_
  | refine Go.lg_cons ?_
  | refine Go.yes ?_
  | refine Go.for_nil ?_
  | refine Go.for_cons ?_
  | refine Go.revT ?_
  | refine Go.revL ?_
  | refine Go.zipT ?_
  | refine Go.zipL ?_
  | refine Go.tupK' rfl ?_
  | refine Go.lstK' rfl ?_
  | refine Go.callK' rfl rfl ?_
  | refine Go.lcL rfl ?_
  | refine Go.getLL' rfl ?_
  | refine Go.addT rfl ?_
  | (refine Go.gAsg ?_; first | refine Go.set0 ?_ | refine Go.set1 ?_ | refine Go.set2 ?_ | refine Go.set3 ?_ | refine Go.set4 ?_ | refine Go.set5 ?_ | refine Go.set6 ?_ | refine Go.set7 ?_ | refine Go.set8 ?_ | refine Go.set9 ?_ | refine Go.set10 ?_ | refine Go.set11 ?_ | refine Go.set12 ?_ | refine Go.set13 ?_ | refine Go.set14 ?_ | refine Go.set15 ?_ | refine Go.set16 ?_ | refine Go.set17 ?_ | refine Go.set18 ?_ | refine Go.set19 ?_ | refine Go.set20 ?_ | refine Go.set21 ?_ | refine Go.set22 ?_ | refine Go.set23 ?_ | refine Go.tp_cons ?_ | refine Go.tp_nil ?_)
  | (refine Go.gIxT ?_; first | refine Go.ixT0 ?_ | refine Go.ixT1 ?_ | refine Go.ixT2 ?_ | refine Go.ixT3 ?_ | refine Go.ixT4 ?_ | refine Go.ixT5 ?_ | refine Go.ixT6 ?_ | refine Go.ixT7 ?_)
  | (refine Go.gIxL ?_; first | refine Go.ixL0 ?_ | refine Go.ixL1 ?_ | refine Go.ixL2 ?_ | refine Go.ixL3 ?_ | refine Go.ixL4 ?_ | refine Go.ixL5 ?_ | refine Go.ixL6 ?_ | refine Go.ixL7 ?_)
  | (refine Go.gAug ?_; first | refine Go.aug0 ?_ | refine Go.aug1 ?_ | refine Go.aug2 ?_ | refine Go.aug3 ?_ | refine Go.aug4 ?_ | refine Go.aug5 ?_ | refine Go.aug6 ?_ | refine Go.aug7 ?_ | refine Go.aug8 ?_ | refine Go.aug9 ?_ | refine Go.aug10 ?_ | refine Go.aug11 ?_ | refine Go.aug12 ?_ | refine Go.aug13 ?_ | refine Go.aug14 ?_ | refine Go.aug15 ?_ | refine Go.aug16 ?_ | refine Go.aug17 ?_ | refine Go.aug18 ?_ | refine Go.aug19 ?_ | refine Go.aug20 ?_ | refine Go.aug21 ?_ | refine Go.aug22 ?_ | refine Go.aug23 ?_)
  | (refine Go.gStar ?_; first | refine Go.startup0 ?_ | refine Go.starlst0 ?_ | refine Go.startup1 ?_ | refine Go.starlst1 ?_ | refine Go.startup2 ?_ | refine Go.starlst2 ?_ | refine Go.startup3 ?_ | refine Go.starlst3 ?_ | refine Go.startup4 ?_ | refine Go.starlst4 ?_ | refine Go.startup_2 ?_ | refine Go.starlst_2 ?_ | refine Go.startup_3 ?_ | refine Go.starlst_3 ?_ | refine Go.startup_4 ?_ | refine Go.starlst_4 ?_)
  | refine Go.slfT1 ?_ | refine Go.sltT1 ?_ | refine Go.slfL1 ?_ | refine Go.sltL1 ?_ | refine Go.slfT2 ?_ | refine Go.sltT2 ?_ | refine Go.slfL2 ?_ | refine Go.sltL2 ?_ | refine Go.slfT3 ?_ | refine Go.sltT3 ?_ | refine Go.slfL3 ?_ | refine Go.sltL3 ?_ | refine Go.slfT4 ?_ | refine Go.sltT4 ?_ | refine Go.slfL4 ?_ | refine Go.sltL4 ?_
  | (refine Go.gUns ?_; first | refine Go.uns0 ?_ | refine Go.uns1 ?_ | refine Go.uns2 ?_ | refine Go.uns3 ?_ | refine Go.uns4 ?_ | refine Go.uns5 ?_ | refine Go.uns6 ?_ | refine Go.uns7 ?_ | refine Go.uns8 ?_ | refine Go.uns9 ?_ | refine Go.uns10 ?_ | refine Go.uns11 ?_ | refine Go.uns12 ?_ | refine Go.uns13 ?_ | refine Go.uns14 ?_ | refine Go.uns15 ?_ | refine Go.uns16 ?_ | refine Go.uns17 ?_ | refine Go.uns18 ?_ | refine Go.uns19 ?_ | refine Go.uns20 ?_ | refine Go.uns21 ?_ | refine Go.uns22 ?_ | refine Go.uns23 ?_)
  | refine Go.entup0 ?_ | refine Go.enlst0 ?_ | refine Go.entup1 ?_ | refine Go.enlst1 ?_ | refine Go.entup2 ?_ | refine Go.enlst2 ?_ | refine Go.entup3 ?_ | refine Go.enlst3 ?_ | refine Go.entup4 ?_ | refine Go.enlst4 ?_ | refine Go.entup5 ?_ | refine Go.enlst5 ?_ | refine Go.entup6 ?_ | refine Go.enlst6 ?_)))
local macro_rules | `(tactic| walk_at "bl1") => `(tactic| first | ((with_reducible refine Go.gEqS ?_); (first | refine Go.eqS (b := true) ⟨rfl, by decide +kernel⟩ ⟨rfl, by decide +kernel⟩ rfl ?_ | refine Go.eqS (b := false) ⟨rfl, by decide +kernel⟩ ⟨rfl, by decide +kernel⟩ rfl ?_)) | ((with_reducible refine Go.gNeS ?_); (first | refine Go.neS (b := true) ⟨rfl, by decide +kernel⟩ ⟨rfl, by decide +kernel⟩ rfl ?_ | refine Go.neS (b := false) ⟨rfl, by decide +kernel⟩ ⟨rfl, by decide +kernel⟩ rfl ?_)) | walk_at "bl0" | ((with_reducible refine Go.gAll ?_); (refine Go.allB (by rfl) ?_)) | ((with_reducible refine Go.gIxT ?_); (refine Go.ixT (by rfl) ?_)) | ((with_reducible refine Go.gIxL ?_); (refine Go.ixL (by rfl) ?_)))
local macro_rules | `(tactic| walk_at "bl") => `(tactic| (repeat walk_at "bl1"))
local macro_rules | `(tactic| walk_at "bl0") => `(tactic| (with_reducible (first | refine Go.zipS' ?_ | refine Go.zipR' ?_ | refine Go.seqT ?_ | refine Go.seqL ?_ | refine Go.zipST rfl ?_ | refine Go.zipSL rfl ?_ | refine Go.for_zc ?_ | refine Go.for_zn ?_ | refine Go.lg_zc ?_ | refine Go.lg_zn ?_)))
/-! ### the law's compare, for all that are apart -/
/-- a fraction that is near to drawn roots -/
structure Nf (r : Rat) : Prop where
  s : sr 1725 r
  d : sm 1602 r.den
  lo : -Real.of ((2 ^ 122 : Int) : Rat) < Real.of r
  hi : Real.of r < Real.of ((2 ^ 122 : Int) : Rat)
end Lr

namespace Lr
open PySem PySem.Spec PyProof.Rows L2 Bl Lb Rl
local macro_rules | `(tactic| walk_at "bl0") => `(tactic| (with_reducible (first
  | (refine Go.gVr ?_; first | refine Go.vr0 ?_ | refine Go.vr1 ?_ | refine Go.vr2 ?_ | refine Go.vr3 ?_ | refine Go.vr4 ?_ | refine Go.vr5 ?_ | refine Go.vr6 ?_ | refine Go.vr7 ?_ | refine Go.vr8 ?_ | refine Go.vr9 ?_ | refine Go.vr10 ?_ | refine Go.vr11 ?_ | refine Go.vr12 ?_ | refine Go.vr13 ?_ | refine Go.vr14 ?_ | refine Go.vr15 ?_ | refine Go.vr16 ?_ | refine Go.vr17 ?_ | refine Go.vr18 ?_ | refine Go.vr19 ?_ | refine Go.vr20 ?_ | refine Go.vr21 ?_ | refine Go.vr22 ?_ | refine Go.vr23 ?_)
  | refine Go.seq ?_
  | refine Go.nx' ?_
  | refine Go.ret ?_
  | refine Go.if' ?_
  | refine Go.asg ?_
  | refine Go.par ?_
  | refine Go.drop ?_
  | refine Go.brk ?_
  | refine Go.cnt ?_
  | refine Go.raise ?_
  | refine Go.thru ?_
  | refine Go.tryAs ?_
  | refine Go.for' ?_
  | refine Go.sub ?_
  | refine Go.retN ?_
  | refine Go.par_cons ?_
  | refine Go.par_nil ?_
  | refine Go.cn' ?_
  | refine Go.two ?_
  | refine Go.nil ?_
  | refine Go.cons ?_
  | refine Go.tup ?_
  | refine Go.lst ?_
  | refine Go.lstR ?_
  | refine Go.tbl' ?_
  | refine Go.tblK' ?_
  | refine Go.ttr' ?_
  | refine Go.truB ?_
  | refine Go.truI ?_
  | refine Go.truN ?_
  | refine Go.and' ?_
  | refine Go.or' ?_
  | refine Go.not' ?_
  | refine Go.vOf' ?_
  | refine Go.vNot' ?_
  | refine Go.eIf' ?_
  | refine Go.ifT ?_
  | refine Go.ifF ?_
  | refine Go.ifN ?_
  | refine Go.add ?_
  | refine Go.sub' ?_
  | refine Go.lt ?_
  | refine Go.le ?_
  | refine Go.gt ?_
  | refine Go.ge ?_
  | refine Go.eqI ?_
  | refine Go.neI ?_
  | refine Go.is' ?_
  | refine Go.isNot' ?_
  | refine Go.chain ?_
  | refine Go.dB' ?_
  | refine Go.neg ?_
  | refine Go.neg' ?_
  | refine Go.abs' ?_
  | refine Go.lenT ?_
  | refine Go.lenL ?_
  | refine Go.max' ?_
  | refine Go.min' ?_
  | refine Go.intI ?_
  | refine Go.intB ?_
  | refine Go.tupL ?_
  | refine Go.tupT ?_
  | refine Go.isi ?_
  | refine Go.call ?_
  | refine Go.iVal' ?_
  | refine Go.iValT ?_
  | refine Go.iValL ?_
  | refine Go.r1 ?_
  | refine Go.r2 ?_
  | refine Go.star ?_
  | refine Go.l_cons ?_
  | refine Go.l_nil ?_
  | refine Go.enum' ?_
  | refine Go.rev' ?_
  | refine Go.zip' ?_
  | refine Go.wipe_nil ?_
  | refine Go.wipe_cons ?_
  | refine Go.iadd ?_
  | refine Go.sl ?_
  | refine Go.oN ?_
  | refine Go.oS ?_
  | refine Go.osK' ?_
  | refine Go.getL ?_
  | refine Go.lc ?_
  | refine Go.lcR ?_
  | refine Go.lg_nil ?_
  | refine Go.lg_cons ?_
  | refine Go.yes ?_
  | refine Go.for_nil ?_
  | refine Go.for_cons ?_
  | refine Go.revT ?_
  | refine Go.revL ?_
  | refine Go.zipT ?_
  | refine Go.zipL ?_
  | refine Go.tupK' rfl ?_
  | refine Go.lstK' rfl ?_
  | refine Go.callK' rfl rfl ?_
  | refine Go.lcL rfl ?_
  | refine Go.getLL' rfl ?_
  | refine Go.addT rfl ?_
  | (refine Go.gAsg ?_; first | refine Go.set0 ?_ | refine Go.set1 ?_ | refine Go.set2 ?_ | refine Go.set3 ?_ | refine Go.set4 ?_ | refine Go.set5 ?_ | refine Go.set6 ?_ | refine Go.set7 ?_ | refine Go.set8 ?_ | refine Go.set9 ?_ | refine Go.set10 ?_ | refine Go.set11 ?_ | refine Go.set12 ?_ | refine Go.set13 ?_ | refine Go.set14 ?_ | refine Go.set15 ?_ | refine Go.set16 ?_ | refine Go.set17 ?_ | refine Go.set18 ?_ | refine Go.set19 ?_ | refine Go.set20 ?_ | refine Go.set21 ?_ | refine Go.set22 ?_ | refine Go.set23 ?_ | refine Go.tp_cons ?_ | refine Go.tp_nil ?_)
  | (refine Go.gIxT ?_; first | refine Go.ixT0 ?_ | refine Go.ixT1 ?_ | refine Go.ixT2 ?_ | refine Go.ixT3 ?_ | refine Go.ixT4 ?_ | refine Go.ixT5 ?_ | refine Go.ixT6 ?_ | refine Go.ixT7 ?_)
  | (refine Go.gIxL ?_; first | refine Go.ixL0 ?_ | refine Go.ixL1 ?_ | refine Go.ixL2 ?_ | refine Go.ixL3 ?_ | refine Go.ixL4 ?_ | refine Go.ixL5 ?_ | refine Go.ixL6 ?_ | refine Go.ixL7 ?_)
  | (refine Go.gAug ?_; first | refine Go.aug0 ?_ | refine Go.aug1 ?_ | refine Go.aug2 ?_ | refine Go.aug3 ?_ | refine Go.aug4 ?_ | refine Go.aug5 ?_ | refine Go.aug6 ?_ | refine Go.aug7 ?_ | refine Go.aug8 ?_ | refine Go.aug9 ?_ | refine Go.aug10 ?_ | refine Go.aug11 ?_ | refine Go.aug12 ?_ | refine Go.aug13 ?_ | refine Go.aug14 ?_ | refine Go.aug15 ?_ | refine Go.aug16 ?_ | refine Go.aug17 ?_ | refine Go.aug18 ?_ | refine Go.aug19 ?_ | refine Go.aug20 ?_ | refine Go.aug21 ?_ | refine Go.aug22 ?_ | refine Go.aug23 ?_)
  | (refine Go.gStar ?_; first | refine Go.startup0 ?_ | refine Go.starlst0 ?_ | refine Go.startup1 ?_ | refine Go.starlst1 ?_ | refine Go.startup2 ?_ | refine Go.starlst2 ?_ | refine Go.startup3 ?_ | refine Go.starlst3 ?_ | refine Go.startup4 ?_ | refine Go.starlst4 ?_ | refine Go.startup_2 ?_ | refine Go.starlst_2 ?_ | refine Go.startup_3 ?_ | refine Go.starlst_3 ?_ | refine Go.startup_4 ?_ | refine Go.starlst_4 ?_)
  | refine Go.slfT1 ?_ | refine Go.sltT1 ?_ | refine Go.slfL1 ?_ | refine Go.sltL1 ?_ | refine Go.slfT2 ?_ | refine Go.sltT2 ?_ | refine Go.slfL2 ?_ | refine Go.sltL2 ?_ | refine Go.slfT3 ?_ | refine Go.sltT3 ?_ | refine Go.slfL3 ?_ | refine Go.sltL3 ?_ | refine Go.slfT4 ?_ | refine Go.sltT4 ?_ | refine Go.slfL4 ?_ | refine Go.sltL4 ?_
  | (refine Go.gUns ?_; first | refine Go.uns0 ?_ | refine Go.uns1 ?_ | refine Go.uns2 ?_ | refine Go.uns3 ?_ | refine Go.uns4 ?_ | refine Go.uns5 ?_ | refine Go.uns6 ?_ | refine Go.uns7 ?_ | refine Go.uns8 ?_ | refine Go.uns9 ?_ | refine Go.uns10 ?_ | refine Go.uns11 ?_ | refine Go.uns12 ?_ | refine Go.uns13 ?_ | refine Go.uns14 ?_ | refine Go.uns15 ?_ | refine Go.uns16 ?_ | refine Go.uns17 ?_ | refine Go.uns18 ?_ | refine Go.uns19 ?_ | refine Go.uns20 ?_ | refine Go.uns21 ?_ | refine Go.uns22 ?_ | refine Go.uns23 ?_)
  | refine Go.entup0 ?_ | refine Go.enlst0 ?_ | refine Go.entup1 ?_ | refine Go.enlst1 ?_ | refine Go.entup2 ?_ | refine Go.enlst2 ?_ | refine Go.entup3 ?_ | refine Go.enlst3 ?_ | refine Go.entup4 ?_ | refine Go.enlst4 ?_ | refine Go.entup5 ?_ | refine Go.enlst5 ?_ | refine Go.entup6 ?_ | refine Go.enlst6 ?_)))
local macro_rules | `(tactic| walk_at "bl1") => `(tactic| first | ((with_reducible refine Go.gEqS ?_); (first | refine Go.eqS (b := true) ⟨rfl, by decide +kernel⟩ ⟨rfl, by decide +kernel⟩ rfl ?_ | refine Go.eqS (b := false) ⟨rfl, by decide +kernel⟩ ⟨rfl, by decide +kernel⟩ rfl ?_)) | ((with_reducible refine Go.gNeS ?_); (first | refine Go.neS (b := true) ⟨rfl, by decide +kernel⟩ ⟨rfl, by decide +kernel⟩ rfl ?_ | refine Go.neS (b := false) ⟨rfl, by decide +kernel⟩ ⟨rfl, by decide +kernel⟩ rfl ?_)) | walk_at "bl0" | ((with_reducible refine Go.gAll ?_); (refine Go.allB (by rfl) ?_)) | ((with_reducible refine Go.gIxT ?_); (refine Go.ixT (by rfl) ?_)) | ((with_reducible refine Go.gIxL ?_); (refine Go.ixL (by rfl) ?_)))
local macro_rules | `(tactic| walk_at "bl") => `(tactic| (repeat walk_at "bl1"))
local macro_rules | `(tactic| walk_at "bl0") => `(tactic| (with_reducible (first | refine Go.zipS' ?_ | refine Go.zipR' ?_ | refine Go.seqT ?_ | refine Go.seqL ?_ | refine Go.zipST rfl ?_ | refine Go.zipSL rfl ?_ | refine Go.for_zc ?_ | refine Go.for_zn ?_ | refine Go.lg_zc ?_ | refine Go.lg_zn ?_)))
theorem ten_sm {i : Nat} (h : i ≤ 9) : sm 30 ((10 : Int) ^ i) := by
  rcases (by omega : i = 0 ∨ i = 1 ∨ i = 2 ∨ i = 3 ∨ i = 4 ∨ i = 5 ∨ i = 6 ∨ i = 7 ∨ i = 8 ∨ i = 9) with h | h | h | h | h | h | h | h | h | h <;> subst h <;> unfold sm <;> decide +kernel
theorem tens_spec {j : Int} {n : Nat} {S : Sto} {Q : DK} {E : EK} (e : j = n) (hn : n ≤ 9) (k : Q (.int (10 ^ n)) S) : m_l_tens [.int j] S Q E := by
  refine e_l_tens ?_
  unfold t_l_tens
  walk_at "bl"
  refine Go.r1' (n := n) e (by omega) ?_
  refine forD_rng (fun i e s => ∃ o, e = [some (.int j), some (.int (10 ^ i)), o] ∧ s = S) ⟨_, rfl, rfl⟩ ?_ ?_
  · rintro i e s hi ⟨o, rfl, rfl⟩
    refine ⟨_, rfl, fun N' hnx _ _ _ _ => ?_⟩
    show sAsg _ _ [some (.int j), some (.int (10 ^ i)), some (.int (0 + i))] _ _
    walk_at "bl"
    refine Go.mul ((ten_sm (by omega)).cmul (sm.of (n := 4) (by decide)) (by decide)) ?_
    walk_at "bl"
    exact hnx _ _ ⟨_, rfl, rfl⟩
  · rintro e s ⟨o, rfl, rfl⟩
    walk_at "bl"
    exact k
theorem okN_fr {n : Nat} (r : Rat) : okN (n + 1) (fr r) := okN_pr _ _
theorem okN_rt (x : Rt) : okN 2 (rt x) := okN_tup (okNs_cons (okN_fr _) (okNs_cons (okN_int _) (okNs_cons (okN_fr _) okNs_nil)))
theorem neR_nil {r : Addr} {xs : List Rt} {S : Sto} {Q : DK} (h : S r = some (xs.map rt)) (k : Q (.bl (!decide (xs = []))) S) : fNeR (.ref r) (.lst []) S Q := by
  unfold fNeR
  dsimp only
  rw [h]
  refine ⟨(okN_lst (n := 2) (okNs_all fun d hd => ?_)).ok (by decide), (okN_lst (n := 0) okNs_nil).ok (by decide), ?_⟩
  · obtain ⟨x, _, rfl⟩ := List.mem_map.mp hd
    exact okN_rt x
  · have e : eqD (.lst (xs.map rt)) (.lst []) = decide (xs = []) := by cases xs <;> rfl
    rw [e]
    exact k
theorem near_fr {p g B : Int} {r : Rat} (g0 : 0 < g) (h1 : -(B * g) ≤ p) (h2 : p ≤ B * g) (hr : r * (g : Rat) = (p : Rat)) : Mg B r := by
  have gp : (0 : Rat) < (g : Rat) := Rat.intCast_pos.mpr g0
  have a1 : ((-(B * g) : Int) : Rat) ≤ (p : Rat) := Rat.intCast_le_intCast.mpr h1
  have a2 : (p : Rat) ≤ ((B * g : Int) : Rat) := Rat.intCast_le_intCast.mpr h2
  rw [Rat.intCast_neg, Rat.intCast_mul, ← hr] at a1
  rw [Rat.intCast_mul, ← hr] at a2
  unfold Mg
  constructor
  · rcases rat_lt_or_le r (-(B : Rat)) with z | z
    · have := Rat.mul_pos (show 0 < -(B : Rat) - r by grind) gp
      grind
    · exact z
  · rcases rat_lt_or_le (B : Rat) r with z | z
    · have := Rat.mul_pos (show 0 < r - (B : Rat) by grind) gp
      grind
    · exact z
theorem near_sm {p g B : Int} (g0 : 0 < g) (gs : sm 30 g) (hB : B ≤ 2 ^ 46) (h1 : -(B * g) ≤ p) (h2 : p ≤ B * g) : sm 77 p := by
  have := Int.mul_le_mul_of_nonneg_right hB (show 0 ≤ g by omega)
  have hg : (2 : Int) ^ 46 * g < 2 ^ 46 * 2 ^ 30 := by
    unfold sm at gs
    have e : ((2 : Nat) ^ 30 : Nat) = 1073741824 := by decide
    rw [e] at gs
    omega
  have e1 : (2 : Int) ^ 46 * 2 ^ 30 ≤ 2 ^ 77 := by decide
  have e2 : ((2 : Nat) ^ 77 : Nat) = 151115727451828646838272 := by decide
  have e3 : (2 : Int) ^ 77 = 151115727451828646838272 := by decide
  unfold sm
  rw [e2]
  omega
end Lr

namespace Lr.K06
open PySem PySem.Spec PyProof.Rows L2 Bl Lb
def t_l_rows_right : TSd := sSeq (sFor (iEnumD (vr 0)) (.tp (.nm 1 :: .nm 2 :: [])) (sFor (iVal (dSl (vr 0) (oSome (vr 1)) (oNone))) (.nm 3) (sSeq (sAsg (dCall m_compare 2 0 (fun ds _ => ds) (aCons (vr 2) (aCons (vr 3) (aNil))) aNil) (.nm 4)) (sSeq (sIf (tOrD (tbl (dTwo (vr 4) (cn (.int 1)) fEq)) (tOrD (tbl (dTwo (dCall m_compare 2 0 (fun ds _ => ds) (aCons (vr 3) (aCons (vr 2) (aNil))) aNil) (dTwo (cn (.int 0)) (vr 4) fSub) fNe)) (tbl (dTwo (dTwo (vr 4) (cn (.int 0)) fEq) (dTwo (vr 2) (vr 3) fEq) fNe)))) (sRet (cn (.bl false))) (sNx)) (sIf (tbl (dTwo (dCall m_floor_of 1 0 (fun ds _ => ds) (aCons (vr 2) (aNil)) aNil) (dCall m_floor_of 1 0 (fun ds _ => ds) (aCons (vr 3) (aNil)) aNil) fGt)) (sRet (cn (.bl false))) (sNx)))))) (sRet (cn (.bl true)))
def m_l_rows_right : TFd := fnD 1 5 t_l_rows_right
theorem e_l_rows_right {a0 : D} {S : Sto} {Q : DK} {E : EK} (k : t_l_rows_right [some a0, none, none, none, none] S ⟨fun _ S1 => Q .non S1, Q, fun _ _ => False, fun _ _ => False, fun x _ S1 => E x S1⟩) : m_l_rows_right [a0] S Q E := ⟨rfl, k⟩
def t_law : TSd := sSeq (sFor (iR1 (aCons (dTwo (cn (.int 1)) (dB bMin (aCons (cn (.int 3)) (aCons (dB bLen (aCons (vr 0) (aNil))) (aNil)))) fAdd) (aNil))) (.nm 1) (sSeq (sAsg (dCall m_l_bag 2 0 (fun ds _ => ds) (aCons (vr 0) (aCons (vr 1) (aNil))) aNil) (.nm 2)) (sSeq (sAsg (dLstR (aNil)) (.nm 3)) (sSeq (sFor (iR1 (aCons (cn (.int 7)) (aNil))) (.nm 4) (sSeq (sAsg (dCall m_l_canonical 3 0 (fun ds _ => ds) (aCons (dCall m_l_number 1 0 (fun ds _ => ds) (aCons (vr 2) (aNil)) aNil) (aCons (dTwo (dCall m_l_take 2 0 (fun ds _ => ds) (aCons (vr 2) (aCons (cn (.int 3)) (aNil))) aNil) (cn (.int 1)) fSub) (aCons (dCall m_l_square 1 0 (fun ds _ => ds) (aCons (vr 2) (aNil)) aNil) (aNil)))) aNil) (.nm 5)) (sSeq (sIf (tAndD (tbl (dTwo (vr 3) (dLst (aNil)) fNeR)) (tbl (dTwo (dCall m_l_take 2 0 (fun ds _ => ds) (aCons (vr 2) (aCons (cn (.int 3)) (aNil))) aNil) (cn (.int 0)) fEq))) (sSeq (sAsg (dCall m_l_tens 1 0 (fun ds _ => ds) (aCons (dTwo (cn (.int 1)) (dCall m_l_take 2 0 (fun ds _ => ds) (aCons (vr 2) (aCons (cn (.int 6)) (aNil))) aNil) fAdd) (aNil)) aNil) (.nm 6)) (sAsg (dTup (aCons (dCall m_l_low 2 0 (fun ds _ => ds) (aCons (dTwo (dTwo (dCall m_l_bounds 2 0 (fun ds _ => ds) (aCons (dTwo (vr 3) (dNeg (cn (.int 1))) fIx) (aCons (vr 6) (aNil))) aNil) (cn (.int 0)) fIx) (dCall m_l_take 2 0 (fun ds _ => ds) (aCons (vr 2) (aCons (cn (.int 4)) (aNil))) aNil) fAdd) (aCons (vr 6) (aNil))) aNil) (aCons (cn (.int 0)) (aCons (dTup (aCons (cn (.int 0)) (aCons (cn (.int 1)) (aNil)))) (aNil))))) (.nm 5))) (sNx)) (sSeq (sAsg (dB bLen (aCons (dLcG (vr 3) (.nm 13) (tbl (dTwo (dCall m_compare 2 0 (fun ds _ => ds) (aCons (vr 13) (aCons (vr 5) (aNil))) aNil) (cn (.int 0)) fLt)) (vr 13) [12, 13]) (aNil))) (.nm 7)) (sDrop (dLm gIns (vr 3) (aCons (vr 7) (aCons (vr 5) (aNil))))))))) (sSeq (sFrz 3 (sAsg (dCall m_l_number 1 0 (fun ds _ => ds) (aCons (vr 2) (aNil)) aNil) (.nm 6))) (sSeq (sAsg (dTup (aCons (dTwo (dB bAbs (aCons (dTwo (vr 6) (cn (.int 0)) fIx) (aNil))) (cn (.int 1)) fAdd) (aCons (dTwo (vr 6) (cn (.int 1)) fIx) (aNil)))) (.nm 8)) (sSeq (sAsg (dCall m_l_low 2 0 (fun ds _ => ds) (aCons (dTwo (vr 8) (cn (.int 0)) fIx) (aCons (dTwo (vr 8) (cn (.int 1)) fIx) (aNil))) aNil) (.nm 8)) (sSeq (sAsg (dLstR (aCons (vr 3) (aCons (dLc (iVal (vr 3)) (.nm 5) (tYesD) (dCall m_moved 2 0 (fun ds _ => ds) (aCons (vr 5) (aCons (vr 6) (aNil))) aNil) [12, 5]) (aCons (dLc (iVal (vr 3)) (.nm 5) (tYesD) (dCall m_scaled 2 0 (fun ds _ => ds) (aCons (vr 5) (aCons (vr 8) (aNil))) aNil) [12, 5]) (aNil))))) (.nm 9)) (sSeq (sDrop (dLm gApp (vr 9) (aCons (dRvs (dLc (iVal (vr 3)) (.nm 5) (tYesD) (dCall m_scaled 2 0 (fun ds _ => ds) (aCons (vr 5) (aCons (dTup (aCons (dTwo (cn (.int 0)) (dTwo (vr 8) (cn (.int 0)) fIx) fSub) (aCons (dTwo (vr 8) (cn (.int 1)) fIx) (aNil)))) (aNil))) aNil) [12, 5]) (oSome (dNeg (cn (.int 1))))) (aNil)))) (sSeq (sIf (tNotD (ttr (dB bAll (aCons (dLcG (vr 9) (.nm 14) (tYesD) (dCall m_l_rows_right 1 0 (fun ds _ => ds) (aCons (vr 14) (aNil)) aNil) [12, 14]) (aNil))))) (sRet (cn (.bl false))) (sNx)) (sFor (iR1 (aCons (cn (.int 6)) (aNil))) (.nm 10) (sIf (tbl (dTwo (dTwo (vr 3) (vr 10) fIx) (dTwo (vr 3) (dTwo (vr 10) (cn (.int 1)) fAdd) fIx) fNe)) (sSeq (sAsg (dTup (aCons (dCall m_between 2 0 (fun ds _ => ds) (aCons (dTwo (vr 3) (vr 10) fIx) (aCons (dTwo (vr 3) (dTwo (vr 10) (cn (.int 1)) fAdd) fIx) (aNil))) aNil) (aCons (cn (.int 0)) (aCons (dTup (aCons (cn (.int 0)) (aCons (cn (.int 1)) (aNil)))) (aNil))))) (.nm 11)) (sSeq (sIf (tNotD (ttr (dB bAll (aCons (dLc (iVal (dSl (vr 3) (oNone) (oSome (dTwo (vr 10) (cn (.int 1)) fAdd)))) (.nm 5) (tYesD) (dTwo (dCall m_compare 2 0 (fun ds _ => ds) (aCons (vr 5) (aCons (vr 11) (aNil))) aNil) (dNeg (cn (.int 1))) fEq) [12, 5]) (aNil))))) (sRet (cn (.bl false))) (sNx)) (sIf (tNotD (ttr (dB bAll (aCons (dLc (iVal (dSl (vr 3) (oSome (dTwo (vr 10) (cn (.int 1)) fAdd)) (oNone))) (.nm 5) (tYesD) (dTwo (dCall m_compare 2 0 (fun ds _ => ds) (aCons (vr 11) (aCons (vr 5) (aNil))) aNil) (dNeg (cn (.int 1))) fEq) [12, 5]) (aNil))))) (sRet (cn (.bl false))) (sNx)))) (sNx))))))))))))) (sRet (cn (.bl true)))
def m_law : TFd := fnD 1 15 t_law
theorem e_law {a0 : D} {S : Sto} {Q : DK} {E : EK} (k : t_law [some a0, none, none, none, none, none, none, none, none, none, none, none, none, none, none] S ⟨fun _ S1 => Q .non S1, Q, fun _ _ => False, fun _ _ => False, fun x _ S1 => E x S1⟩) : m_law [a0] S Q E := ⟨rfl, k⟩
end Lr.K06

namespace Lr.K06
open PySem PySem.Spec PyProof.Rows L2 Bl Lb
local macro_rules | `(tactic| walk_at "mo") => `(tactic| (repeat' first
  | exact moVr _ | exact moCn _ | exact moYesD | exact moNilA | exact moONone | exact moAdd | exact moSub | exact moMul | exact moDiv | exact moMod | exact moPow | exact moShl | exact moLt | exact moLe | exact moGt | exact moGe | exact moEq | exact moNe | exact moIs | exact moIsNot | exact moIn _ | exact moIx | exact moCat | exact moRep01 | exact moCatR | exact moNeR | refine moSortSet ?_
  | (with_reducible refine moTup ?_) | refine moTwo ?_ ?_ ?_ | refine moConsA ?_ ?_ | refine moTup ?_ | refine moLst ?_ | refine moTbl ?_ | refine moTtr ?_ | refine moAndD ?_ ?_ | refine moOrD ?_ ?_ | refine moNotD ?_ | refine moVOf ?_ | refine moEIf ?_ ?_ ?_ | refine moNeg ?_ | refine moChain ?_ ?_ ?_ ?_ ?_ | refine moSl ?_ ?_ ?_ | refine moOSome ?_ | refine moIsi ?_
  | refine moCall ?_ ?_ ?_ | refine moLc ?_ ?_ ?_ | refine moRvs ?_ ?_ | refine moLcG ?_ ?_ ?_ | refine moIVal ?_ | refine moR1 ?_ | refine moR2 ?_ | refine moEnumD ?_ | refine moRevD ?_ | refine moZipD ?_ ?_ | refine moZipSD ?_ ?_ | refine moZipRD ?_ ?_ | refine moGetL ?_ ?_ ?_ | refine moB (cd_len (X := X)).mo ?_ | refine moB (cd_abs (X := X)).mo ?_ | refine moB (cd_int (X := X)).mo ?_ | refine moB (cd_tup (X := X)).mo ?_ | refine moB (cd_lst (X := X)).mo ?_))
section
variable {P : Program} {w : World} {K : PySem.W.Frag} {mg : Str → Option Value} {base : Heap}
theorem Tk_ZERO (T : Tp fa fn bx K mg) : GC K mg "ZERO" k_ZERO := gc_tupI (T.glo 26) (all_at T.bx 0 rfl)
theorem body_common (T : Tp fa fn bx K mg) {X : Cx} {W : WX} (d : JD P w K mg base nm_common (defScope (top 6)) vw_common 0 X W) : JB X W (defBody (top 6)) t_common :=
  jb_cons (js_par d.toJC 0 1 rfl rfl (by decide) (d.toJC.sC.loc 0 (mm 0) _ rfl) (d.toJC.sC.loc 1 (mm 1) _ rfl) (ja_cons (je_callB d.toJC cd_abs (mm 0) (T.free 12) (by decide +kernel) (ja_cons (jv d.toJC 0 (mm 0) rfl) (ja_nil))) (ja_cons (je_callB d.toJC cd_abs (mm 0) (T.free 12) (by decide +kernel) (ja_cons (jv d.toJC 1 (mm 1) rfl) (ja_nil))) (ja_nil))) (sw2 d.toJC.kd (by rw [d.toJC.ss]; exact (d.toJC.sC.loc 0 (mm 0) _ rfl)) (by rw [d.toJC.ss]; exact (d.toJC.sC.loc 1 (mm 1) _ rfl)) rfl (by decide +kernel) rfl rfl rfl)) (jb_cons (js_while d (jt_cmp (opD_ne d.toJC.room) (jv d.toJC 1 (mm 1) rfl) (je_int) rfl) (jb_one (js_par d.toJC 0 1 rfl rfl (by decide) (d.toJC.sC.loc 0 (mm 0) _ rfl) (d.toJC.sC.loc 1 (mm 1) _ rfl) (ja_cons (jv d.toJC 1 (mm 1) rfl) (ja_cons (je_op opD_mod (jv d.toJC 0 (mm 0) rfl) (jv d.toJC 1 (mm 1) rfl)) (ja_nil))) (sw2 d.toJC.kd (by rw [d.toJC.ss]; exact (d.toJC.sC.loc 0 (mm 0) _ rfl)) (by rw [d.toJC.ss]; exact (d.toJC.sC.loc 1 (mm 1) _ rfl)) rfl (by decide +kernel) rfl rfl rfl)))) (jb_one (js_ret (jv d.toJC 0 (mm 0) rfl))))
theorem Tj_common (T : Tp fa fn bx K mg) : JF P w K mg base "common" 2 [] (fun ds _ => ds) 1 m_common := by
  obtain ⟨fd, F⟩ := T.sy.def_ 0 (d := d_common) rfl
  exact jf_mkN F fs_common sc_common (T.glo 22) ⟨rfl, by decide, by decide⟩ (fun _ _ _ _ _ _ us hl => match us, hl with | [_, _], _ => rfl) (fun X W d => body_common T d)
theorem body_frac (T : Tp fa fn bx K mg) {X : Cx} {W : WX} (d : JD P w K mg base nm_frac (defScope (top 7)) vw_frac 1 X W) : JB X W (defBody (top 7)) t_frac :=
  jb_cons (js_thru d (fun _ _ d => jb_one (js_set d.toJC 2 rfl (.inl (d.toJC.sC.loc 2 (mm 2) _ rfl)) (je_op opD_div (jv d.toJC 1 (mm 1) rfl) (je_callB d.toJC cd_abs (mm 0) (T.free 12) (by decide +kernel) (ja_cons (jv d.toJC 1 (mm 1) rfl) (ja_nil))))))) (jb_cons (js_set d.toJC 4 rfl (.inl (d.toJC.sC.loc 4 (mm 4) _ rfl)) (je_op opD_mul (je_call d.toJC (Tj_common T) (by decide) (mm 3) (ja_cons (jv d.toJC 0 (mm 0) rfl) (ja_cons (jv d.toJC 1 (mm 1) rfl) (ja_nil)))) (jv d.toJC 2 (mm 2) rfl))) (jb_one (js_ret (je_tup (ja_cons (je_op opD_div (jv d.toJC 0 (mm 0) rfl) (jv d.toJC 4 (mm 4) rfl)) (ja_cons (je_op opD_div (jv d.toJC 1 (mm 1) rfl) (jv d.toJC 4 (mm 4) rfl)) (ja_nil)))))))
theorem Tj_frac (T : Tp fa fn bx K mg) : JF P w K mg base "frac" 2 [] (fun ds _ => ds ++ []) 2 m_frac := by
  obtain ⟨fd, F⟩ := T.sy.def_ 1 (d := d_frac) rfl
  exact jf_mkF 2 1 [] F fs_frac sc_frac (T.glo 21) ⟨rfl, by decide, by decide⟩ (List.cons_ne_nil _ _) rfl (fun _ _ _ => .nil) (fun _ _ _ _ _ _ _ us its hl h2 => match us, its, hl, h2 with | [_, _], [_], _, _ => ⟨_, rfl, rfl⟩) (fun X W d => body_frac T d)
theorem body_times (T : Tp fa fn bx K mg) {X : Cx} {W : WX} (d : JD P w K mg base nm_times (defScope (top 9)) vw_times 2 X W) : JB X W (defBody (top 9)) t_times :=
  jb_one (js_ret (je_call d.toJC (Tj_frac T) (by decide) (mm 0) (ja_cons (je_op opD_mul (je_ix (jv d.toJC 0 (mm 0) rfl) (je_int)) (je_ix (jv d.toJC 1 (mm 1) rfl) (je_int))) (ja_cons (je_op opD_mul (je_ix (jv d.toJC 0 (mm 0) rfl) (je_int)) (je_ix (jv d.toJC 1 (mm 1) rfl) (je_int))) (ja_nil)))))
theorem Tj_times (T : Tp fa fn bx K mg) : JF P w K mg base "times" 2 [] (fun ds _ => ds) 3 m_times := by
  obtain ⟨fd, F⟩ := T.sy.def_ 2 (d := d_times) rfl
  exact jf_mkN F fs_times sc_times (T.glo 18) ⟨rfl, by decide, by decide⟩ (fun _ _ _ _ _ _ us hl => match us, hl with | [_, _], _ => rfl) (fun X W d => body_times T d)
theorem body_sign_of (T : Tp fa fn bx K mg) {X : Cx} {W : WX} (d : JD P w K mg base nm_sign_of (defScope (top 10)) vw_sign_of 0 X W) : JB X W (defBody (top 10)) t_sign_of :=
  jb_one (js_ret (je_op opD_sub (je_callTy d.toJC cd_int (mm 0) (T.free 23) (by decide +kernel) (ja_cons (je_cmp opD_gt (jv d.toJC 0 (mm 0) rfl) (je_int) rfl) (ja_nil))) (je_callTy d.toJC cd_int (mm 0) (T.free 23) (by decide +kernel) (ja_cons (je_cmp opD_lt (jv d.toJC 0 (mm 0) rfl) (je_int) rfl) (ja_nil)))))
theorem Tj_sign_of (T : Tp fa fn bx K mg) : JF P w K mg base "sign_of" 1 [] (fun ds _ => ds) 1 m_sign_of := by
  obtain ⟨fd, F⟩ := T.sy.def_ 3 (d := d_sign_of) rfl
  exact jf_mkN F fs_sign_of sc_sign_of (T.glo 20) ⟨rfl, by decide, by decide⟩ (fun _ _ _ _ _ _ us hl => match us, hl with | [_], _ => rfl) (fun X W d => body_sign_of T d)
theorem body_plus (T : Tp fa fn bx K mg) {X : Cx} {W : WX} (d : JD P w K mg base nm_plus (defScope (top 8)) vw_plus 2 X W) : JB X W (defBody (top 8)) t_plus :=
  jb_one (js_ret (je_call d.toJC (Tj_frac T) (by decide) (mm 0) (ja_cons (je_op opD_add (je_op opD_mul (je_ix (jv d.toJC 0 (mm 0) rfl) (je_int)) (je_ix (jv d.toJC 1 (mm 1) rfl) (je_int))) (je_op opD_mul (je_ix (jv d.toJC 1 (mm 1) rfl) (je_int)) (je_ix (jv d.toJC 0 (mm 0) rfl) (je_int)))) (ja_cons (je_op opD_mul (je_ix (jv d.toJC 0 (mm 0) rfl) (je_int)) (je_ix (jv d.toJC 1 (mm 1) rfl) (je_int))) (ja_nil)))))
theorem Tj_plus (T : Tp fa fn bx K mg) : JF P w K mg base "plus" 2 [] (fun ds _ => ds) 3 m_plus := by
  obtain ⟨fd, F⟩ := T.sy.def_ 4 (d := d_plus) rfl
  exact jf_mkN F fs_plus sc_plus (T.glo 29) ⟨rfl, by decide, by decide⟩ (fun _ _ _ _ _ _ us hl => match us, hl with | [_, _], _ => rfl) (fun X W d => body_plus T d)
theorem body_whole_root (T : Tp fa fn bx K mg) {X : Cx} {W : WX} (d : JD P w K mg base nm_whole_root (defScope (top 11)) vw_whole_root 0 X W) : JB X W (defBody (top 11)) t_whole_root :=
  jb_cons (js_if (jt_cmp (opD_eq d.toJC.room) (jv d.toJC 0 (mm 0) rfl) (je_int) rfl) (jb_one (js_ret (je_int))) (jb_nil)) (jb_cons (js_set d.toJC 1 rfl (.inl (d.toJC.sC.loc 1 (mm 1) _ rfl)) (je_op opD_shl (je_int) (je_op opD_div (je_op opD_add (je_bits (jv d.toJC 0 (mm 0) rfl)) (je_int)) (je_int)))) (jb_cons (js_while d (jt_cmp opD_gt (je_op opD_mul (jv d.toJC 1 (mm 1) rfl) (jv d.toJC 1 (mm 1) rfl)) (jv d.toJC 0 (mm 0) rfl) rfl) (jb_one (js_set d.toJC 1 rfl (.inl (d.toJC.sC.loc 1 (mm 1) _ rfl)) (je_op opD_div (je_op opD_add (jv d.toJC 1 (mm 1) rfl) (je_op opD_div (jv d.toJC 0 (mm 0) rfl) (jv d.toJC 1 (mm 1) rfl))) (je_int))))) (jb_one (js_ret (jv d.toJC 1 (mm 1) rfl)))))
theorem Tj_whole_root (T : Tp fa fn bx K mg) : JF P w K mg base "whole_root" 1 [] (fun ds _ => ds) 1 m_whole_root := by
  obtain ⟨fd, F⟩ := T.sy.def_ 5 (d := d_whole_root) rfl
  exact jf_mkN F fs_whole_root sc_whole_root (T.glo 28) ⟨rfl, by decide, by decide⟩ (fun _ _ _ _ _ _ us hl => match us, hl with | [_], _ => rfl) (fun X W d => body_whole_root T d)
theorem body_is_square (T : Tp fa fn bx K mg) {X : Cx} {W : WX} (d : JD P w K mg base nm_is_square (defScope (top 12)) vw_is_square 1 X W) : JB X W (defBody (top 12)) t_is_square :=
  jb_one (js_ret (je_cmp (opD_eq d.toJC.room) (je_op opD_pow (je_call d.toJC (Tj_whole_root T) (by decide) (mm 0) (ja_cons (jv d.toJC 0 (mm 0) rfl) (ja_nil))) (je_int)) (jv d.toJC 0 (mm 0) rfl) rfl))
theorem Tj_is_square (T : Tp fa fn bx K mg) : JF P w K mg base "is_square" 1 [] (fun ds _ => ds) 2 m_is_square := by
  obtain ⟨fd, F⟩ := T.sy.def_ 6 (d := d_is_square) rfl
  exact jf_mkN F fs_is_square sc_is_square (T.glo 27) ⟨rfl, by decide, by decide⟩ (fun _ _ _ _ _ _ us hl => match us, hl with | [_], _ => rfl) (fun X W d => body_is_square T d)
theorem body_root (T : Tp fa fn bx K mg) {X : Cx} {W : WX} (d : JD P w K mg base nm_root (defScope (top 14)) vw_root 3 X W) : JB X W (defBody (top 14)) t_root :=
  jb_cons (js_if (jt_cmp opD_lt (je_ix (jv d.toJC 2 (mm 2) rfl) (je_int)) (je_int) rfl) (jb_one (js_raiseV d.toJC (mm 0) (T.sy.fact 24 rfl) (T.sy.fact 25 rfl) (T.glo 24))) (jb_nil)) (jb_cons (js_if (jt_w (jw_or (jt_cmp (opD_eq d.toJC.room) (jv d.toJC 1 (mm 1) rfl) (je_int) rfl) (jw_or1 (jt_cmp (opD_eq d.toJC.room) (je_ix (jv d.toJC 2 (mm 2) rfl) (je_int)) (je_int) rfl)))) (jb_one (js_ret (je_tup (ja_cons (jv d.toJC 0 (mm 0) rfl) (ja_cons (je_int) (ja_cons (je_glob d.toJC (mm 1) (Tk_ZERO T)) (ja_nil))))))) (jb_nil)) (jb_cons (js_if (jt_w (jw_and (jt_tru (je_call d.toJC (Tj_is_square T) (by decide) (mm 2) (ja_cons (je_ix (jv d.toJC 2 (mm 2) rfl) (je_int)) (ja_nil)))) (jw_and1 (jt_tru (je_call d.toJC (Tj_is_square T) (by decide) (mm 2) (ja_cons (je_ix (jv d.toJC 2 (mm 2) rfl) (je_int)) (ja_nil))))))) (jb_one (js_ret (je_tup (ja_cons (je_call d.toJC (Tj_plus T) (by decide) (mm 3) (ja_cons (jv d.toJC 0 (mm 0) rfl) (ja_cons (je_tup (ja_cons (je_op opD_mul (jv d.toJC 1 (mm 1) rfl) (je_call d.toJC (Tj_whole_root T) (by decide) (mm 4) (ja_cons (je_ix (jv d.toJC 2 (mm 2) rfl) (je_int)) (ja_nil)))) (ja_cons (je_call d.toJC (Tj_whole_root T) (by decide) (mm 4) (ja_cons (je_ix (jv d.toJC 2 (mm 2) rfl) (je_int)) (ja_nil))) (ja_nil)))) (ja_nil)))) (ja_cons (je_int) (ja_cons (je_glob d.toJC (mm 1) (Tk_ZERO T)) (ja_nil))))))) (jb_nil)) (jb_one (js_ret (je_tup (ja_cons (jv d.toJC 0 (mm 0) rfl) (ja_cons (jv d.toJC 1 (mm 1) rfl) (ja_cons (jv d.toJC 2 (mm 2) rfl) (ja_nil)))))))))
theorem Tj_root_sign_square (T : Tp fa fn bx K mg) : JF P w K mg base "root" 1 ["sign", "square"] (fun a b => g_root_sign_square a b) 4 m_root := by
  obtain ⟨fd, F⟩ := T.sy.def_ 7 (d := d_root) rfl
  exact jf_mkW 1 ["sign", "square"] F fs_root sc_root (T.glo 19) ⟨rfl, by decide, by decide⟩ g_root_sign_square (fun {us ws} l1 l2 => match us, ws, l1, l2 with | [_], [_, _], _, _ => rfl) (fun {Z S H ds zs vs ws} r r2 l1 l2 => match ds, zs, vs, ws, r, r2, l1, l2 with | [_], [_, _], _, _, .cons a0 .nil, .cons b_sign (.cons b_square .nil), _, _ => .cons a0 (.cons b_sign (.cons b_square .nil))) (fun {vs zs us ws} r r2 l1 l2 => match vs, zs, us, ws, r, r2, l1, l2 with | [_], [_, _], _, _, .cons a0 .nil, .cons b_sign (.cons b_square .nil), _, _ => .cons a0 (.cons b_sign (.cons b_square .nil))) (fun _ _ _ _ _ _ us ws l1 l2 => match us, ws, l1, l2 with | [_], [_, _], _, _ => rfl) (fun X W d => body_root T d)
theorem body_scaled (T : Tp fa fn bx K mg) {X : Cx} {W : WX} (d : JD P w K mg base nm_scaled (defScope (top 17)) vw_scaled 4 X W) : JB X W (defBody (top 17)) t_scaled :=
  jb_cons (js_asg (jv d.toJC 0 (mm 0) rfl) (jg_tup d.toJC.calm (jgs_cons (jg_name d.toJC 2 rfl (.inl (d.toJC.sC.loc 2 (mm 2) _ rfl))) (jgs_cons (jg_name d.toJC 3 rfl (.inl (d.toJC.sC.loc 3 (mm 3) _ rfl))) (jgs_cons (jg_name d.toJC 4 rfl (.inl (d.toJC.sC.loc 4 (mm 4) _ rfl))) (jgs_nil)))))) (jb_one (js_ret (je_callK d.toJC (Tj_root_sign_square T) (by decide) (mm 0) (ja_cons (je_call d.toJC (Tj_times T) (by decide) (mm 1) (ja_cons (jv d.toJC 2 (mm 2) rfl) (ja_cons (jv d.toJC 1 (mm 1) rfl) (ja_nil)))) (ja_nil)) (jk_cons (je_op opD_mul (jv d.toJC 3 (mm 3) rfl) (je_call d.toJC (Tj_sign_of T) (by decide) (mm 2) (ja_cons (je_ix (jv d.toJC 1 (mm 1) rfl) (je_int)) (ja_nil)))) (jk_cons (je_call d.toJC (Tj_times T) (by decide) (mm 1) (ja_cons (jv d.toJC 4 (mm 4) rfl) (ja_cons (je_call d.toJC (Tj_times T) (by decide) (mm 1) (ja_cons (jv d.toJC 1 (mm 1) rfl) (ja_cons (jv d.toJC 1 (mm 1) rfl) (ja_nil)))) (ja_nil)))) (jk_nil))))))
theorem Tj_scaled (T : Tp fa fn bx K mg) : JF P w K mg base "scaled" 2 [] (fun ds _ => ds) 5 m_scaled := by
  obtain ⟨fd, F⟩ := T.sy.def_ 8 (d := d_scaled) rfl
  exact jf_mkN F fs_scaled sc_scaled (T.glo 14) ⟨rfl, by decide, by decide⟩ (fun _ _ _ _ _ _ us hl => match us, hl with | [_, _], _ => rfl) (fun X W d => body_scaled T d)
theorem body_moved (T : Tp fa fn bx K mg) {X : Cx} {W : WX} (d : JD P w K mg base nm_moved (defScope (top 18)) vw_moved 3 X W) : JB X W (defBody (top 18)) t_moved :=
  jb_cons (js_asg (jv d.toJC 0 (mm 0) rfl) (jg_tup d.toJC.calm (jgs_cons (jg_name d.toJC 2 rfl (.inl (d.toJC.sC.loc 2 (mm 2) _ rfl))) (jgs_cons (jg_name d.toJC 3 rfl (.inl (d.toJC.sC.loc 3 (mm 3) _ rfl))) (jgs_cons (jg_name d.toJC 4 rfl (.inl (d.toJC.sC.loc 4 (mm 4) _ rfl))) (jgs_nil)))))) (jb_one (js_ret (je_tup (ja_cons (je_call d.toJC (Tj_plus T) (by decide) (mm 0) (ja_cons (jv d.toJC 2 (mm 2) rfl) (ja_cons (jv d.toJC 1 (mm 1) rfl) (ja_nil)))) (ja_cons (jv d.toJC 3 (mm 3) rfl) (ja_cons (jv d.toJC 4 (mm 4) rfl) (ja_nil)))))))
theorem Tj_moved (T : Tp fa fn bx K mg) : JF P w K mg base "moved" 2 [] (fun ds _ => ds) 4 m_moved := by
  obtain ⟨fd, F⟩ := T.sy.def_ 9 (d := d_moved) rfl
  exact jf_mkN F fs_moved sc_moved (T.glo 13) ⟨rfl, by decide, by decide⟩ (fun _ _ _ _ _ _ us hl => match us, hl with | [_, _], _ => rfl) (fun X W d => body_moved T d)
theorem body_field_sign (T : Tp fa fn bx K mg) {X : Cx} {W : WX} (d : JD P w K mg base nm_field_sign (defScope (top 15)) vw_field_sign 1 X W) : JB X W (defBody (top 15)) t_field_sign :=
  jb_cons (js_if (jt_w (jw_or (jt_cmp opD_ge (je_op opD_mul (je_call d.toJC (Tj_sign_of T) (by decide) (mm 0) (ja_cons (jv d.toJC 0 (mm 0) rfl) (ja_nil))) (je_call d.toJC (Tj_sign_of T) (by decide) (mm 0) (ja_cons (jv d.toJC 1 (mm 1) rfl) (ja_nil)))) (je_int) rfl) (jw_or1 (jt_cmp (opD_eq d.toJC.room) (jv d.toJC 2 (mm 2) rfl) (je_int) rfl)))) (jb_one (js_ret (je_ifExp (jt_cmp (opD_eq d.toJC.room) (jv d.toJC 2 (mm 2) rfl) (je_int) rfl) (je_call d.toJC (Tj_sign_of T) (by decide) (mm 0) (ja_cons (jv d.toJC 0 (mm 0) rfl) (ja_nil))) (je_call d.toJC (Tj_sign_of T) (by decide) (mm 0) (ja_cons (je_op opD_add (je_call d.toJC (Tj_sign_of T) (by decide) (mm 0) (ja_cons (jv d.toJC 0 (mm 0) rfl) (ja_nil))) (je_call d.toJC (Tj_sign_of T) (by decide) (mm 0) (ja_cons (jv d.toJC 1 (mm 1) rfl) (ja_nil)))) (ja_nil)))))) (jb_nil)) (jb_one (js_ret (je_op opD_mul (je_call d.toJC (Tj_sign_of T) (by decide) (mm 0) (ja_cons (jv d.toJC 0 (mm 0) rfl) (ja_nil))) (je_call d.toJC (Tj_sign_of T) (by decide) (mm 0) (ja_cons (je_op opD_sub (je_op opD_mul (jv d.toJC 0 (mm 0) rfl) (jv d.toJC 0 (mm 0) rfl)) (je_op opD_mul (je_op opD_mul (jv d.toJC 1 (mm 1) rfl) (jv d.toJC 1 (mm 1) rfl)) (jv d.toJC 2 (mm 2) rfl))) (ja_nil))))))
theorem Tj_field_sign (T : Tp fa fn bx K mg) : JF P w K mg base "field_sign" 3 [] (fun ds _ => ds) 2 m_field_sign := by
  obtain ⟨fd, F⟩ := T.sy.def_ 10 (d := d_field_sign) rfl
  exact jf_mkN F fs_field_sign sc_field_sign (T.glo 32) ⟨rfl, by decide, by decide⟩ (fun _ _ _ _ _ _ us hl => match us, hl with | [_, _, _], _ => rfl) (fun X W d => body_field_sign T d)
theorem body_root_sign (T : Tp fa fn bx K mg) {X : Cx} {W : WX} (d : JD P w K mg base nm_root_sign (defScope (top 16)) vw_root_sign 2 X W) : JB X W (defBody (top 16)) t_root_sign :=
  jb_cons (js_asg (jv d.toJC 0 (mm 0) rfl) (jg_tup d.toJC.calm (jgs_cons (jg_name d.toJC 1 rfl (.inl (d.toJC.sC.loc 1 (mm 1) _ rfl))) (jgs_cons (jg_name d.toJC 2 rfl (.inl (d.toJC.sC.loc 2 (mm 2) _ rfl))) (jgs_cons (jg_name d.toJC 3 rfl (.inl (d.toJC.sC.loc 3 (mm 3) _ rfl))) (jgs_nil)))))) (jb_cons (js_set d.toJC 4 rfl (.inl (d.toJC.sC.loc 4 (mm 4) _ rfl)) (je_op opD_mul (je_ix (jv d.toJC 1 (mm 1) rfl) (je_int)) (je_ix (jv d.toJC 3 (mm 3) rfl) (je_int)))) (jb_one (js_ret (je_call d.toJC (Tj_field_sign T) (by decide) (mm 0) (ja_cons (je_op opD_mul (je_op opD_mul (je_ix (jv d.toJC 1 (mm 1) rfl) (je_int)) (je_ix (jv d.toJC 3 (mm 3) rfl) (je_int))) (je_ix (jv d.toJC 3 (mm 3) rfl) (je_int))) (ja_cons (je_op opD_mul (jv d.toJC 2 (mm 2) rfl) (jv d.toJC 4 (mm 4) rfl)) (ja_cons (je_op opD_mul (je_ix (jv d.toJC 3 (mm 3) rfl) (je_int)) (je_ix (jv d.toJC 3 (mm 3) rfl) (je_int))) (ja_nil))))))))
theorem Tj_root_sign (T : Tp fa fn bx K mg) : JF P w K mg base "root_sign" 1 [] (fun ds _ => ds) 3 m_root_sign := by
  obtain ⟨fd, F⟩ := T.sy.def_ 11 (d := d_root_sign) rfl
  exact jf_mkN F fs_root_sign sc_root_sign (T.glo 30) ⟨rfl, by decide, by decide⟩ (fun _ _ _ _ _ _ us hl => match us, hl with | [_], _ => rfl) (fun X W d => body_root_sign T d)
theorem body_squared_less (T : Tp fa fn bx K mg) {X : Cx} {W : WX} (d : JD P w K mg base nm_squared_less (defScope (top 19)) vw_squared_less 4 X W) : JB X W (defBody (top 19)) t_squared_less :=
  jb_cons (js_asg (jv d.toJC 0 (mm 0) rfl) (jg_tup d.toJC.calm (jgs_cons (jg_name d.toJC 2 rfl (.inl (d.toJC.sC.loc 2 (mm 2) _ rfl))) (jgs_cons (jg_name d.toJC 3 rfl (.inl (d.toJC.sC.loc 3 (mm 3) _ rfl))) (jgs_cons (jg_name d.toJC 4 rfl (.inl (d.toJC.sC.loc 4 (mm 4) _ rfl))) (jgs_nil)))))) (jb_cons (js_set d.toJC 5 rfl (.inl (d.toJC.sC.loc 5 (mm 5) _ rfl)) (je_call d.toJC (Tj_plus T) (by decide) (mm 0) (ja_cons (je_call d.toJC (Tj_plus T) (by decide) (mm 0) (ja_cons (je_call d.toJC (Tj_times T) (by decide) (mm 1) (ja_cons (jv d.toJC 2 (mm 2) rfl) (ja_cons (jv d.toJC 2 (mm 2) rfl) (ja_nil)))) (ja_cons (jv d.toJC 4 (mm 4) rfl) (ja_nil)))) (ja_cons (je_tup (ja_cons (je_op opD_sub (je_int) (je_ix (jv d.toJC 1 (mm 1) rfl) (je_int))) (ja_cons (je_ix (jv d.toJC 1 (mm 1) rfl) (je_int)) (ja_nil)))) (ja_nil))))) (jb_cons (js_set d.toJC 6 rfl (.inl (d.toJC.sC.loc 6 (mm 6) _ rfl)) (je_call d.toJC (Tj_times T) (by decide) (mm 1) (ja_cons (jv d.toJC 2 (mm 2) rfl) (ja_cons (je_tup (ja_cons (je_op opD_mul (je_int) (jv d.toJC 3 (mm 3) rfl)) (ja_cons (je_int) (ja_nil)))) (ja_nil))))) (jb_one (js_ret (je_callK d.toJC (Tj_root_sign_square T) (by decide) (mm 2) (ja_cons (jv d.toJC 5 (mm 5) rfl) (ja_nil)) (jk_cons (je_call d.toJC (Tj_sign_of T) (by decide) (mm 3) (ja_cons (je_ix (jv d.toJC 6 (mm 6) rfl) (je_int)) (ja_nil))) (jk_cons (je_call d.toJC (Tj_times T) (by decide) (mm 1) (ja_cons (jv d.toJC 4 (mm 4) rfl) (ja_cons (je_call d.toJC (Tj_times T) (by decide) (mm 1) (ja_cons (jv d.toJC 6 (mm 6) rfl) (ja_cons (jv d.toJC 6 (mm 6) rfl) (ja_nil)))) (ja_nil)))) (jk_nil))))))))
theorem Tj_squared_less (T : Tp fa fn bx K mg) : JF P w K mg base "squared_less" 2 [] (fun ds _ => ds) 5 m_squared_less := by
  obtain ⟨fd, F⟩ := T.sy.def_ 12 (d := d_squared_less) rfl
  exact jf_mkN F fs_squared_less sc_squared_less (T.glo 31) ⟨rfl, by decide, by decide⟩ (fun _ _ _ _ _ _ us hl => match us, hl with | [_, _], _ => rfl) (fun X W d => body_squared_less T d)
theorem body_compare (T : Tp fa fn bx K mg) {X : Cx} {W : WX} (d : JD P w K mg base nm_compare (defScope (top 20)) vw_compare 5 X W) : JB X W (defBody (top 20)) t_compare :=
  jb_cons (js_asg (jv d.toJC 1 (mm 1) rfl) (jg_tup d.toJC.calm (jgs_cons (jg_name d.toJC 2 rfl (.inl (d.toJC.sC.loc 2 (mm 2) _ rfl))) (jgs_cons (jg_name d.toJC 3 rfl (.inl (d.toJC.sC.loc 3 (mm 3) _ rfl))) (jgs_cons (jg_name d.toJC 4 rfl (.inl (d.toJC.sC.loc 4 (mm 4) _ rfl))) (jgs_nil)))))) (jb_cons (js_set d.toJC 5 rfl (.inl (d.toJC.sC.loc 5 (mm 5) _ rfl)) (je_call d.toJC (Tj_moved T) (by decide) (mm 0) (ja_cons (jv d.toJC 0 (mm 0) rfl) (ja_cons (je_tup (ja_cons (je_op opD_sub (je_int) (je_ix (jv d.toJC 2 (mm 2) rfl) (je_int))) (ja_cons (je_ix (jv d.toJC 2 (mm 2) rfl) (je_int)) (ja_nil)))) (ja_nil))))) (jb_cons (js_set d.toJC 6 rfl (.inl (d.toJC.sC.loc 6 (mm 6) _ rfl)) (je_call d.toJC (Tj_root_sign T) (by decide) (mm 1) (ja_cons (jv d.toJC 5 (mm 5) rfl) (ja_nil)))) (jb_cons (js_if (jt_cmp (opD_eq d.toJC.room) (jv d.toJC 3 (mm 3) rfl) (je_int) rfl) (jb_one (js_ret (jv d.toJC 6 (mm 6) rfl))) (jb_nil)) (jb_cons (js_if (jt_cmp opD_le (je_op opD_mul (jv d.toJC 6 (mm 6) rfl) (jv d.toJC 3 (mm 3) rfl)) (je_int) rfl) (jb_one (js_ret (je_ifExp (jt_cmp (opD_ne d.toJC.room) (jv d.toJC 6 (mm 6) rfl) (je_int) rfl) (jv d.toJC 6 (mm 6) rfl) (je_op opD_sub (je_int) (jv d.toJC 3 (mm 3) rfl))))) (jb_nil)) (jb_one (js_ret (je_op opD_mul (jv d.toJC 3 (mm 3) rfl) (je_call d.toJC (Tj_root_sign T) (by decide) (mm 1) (ja_cons (je_call d.toJC (Tj_squared_less T) (by decide) (mm 2) (ja_cons (jv d.toJC 5 (mm 5) rfl) (ja_cons (jv d.toJC 4 (mm 4) rfl) (ja_nil)))) (ja_nil))))))))))
theorem Tj_compare (T : Tp fa fn bx K mg) : JF P w K mg base "compare" 2 [] (fun ds _ => ds) 6 m_compare := by
  obtain ⟨fd, F⟩ := T.sy.def_ 13 (d := d_compare) rfl
  exact jf_mkN F fs_compare sc_compare (T.glo 11) ⟨rfl, by decide, by decide⟩ (fun _ _ _ _ _ _ us hl => match us, hl with | [_, _], _ => rfl) (fun X W d => body_compare T d)
theorem body_floor_of (T : Tp fa fn bx K mg) {X : Cx} {W : WX} (d : JD P w K mg base nm_floor_of (defScope (top 21)) vw_floor_of 6 X W) : JB X W (defBody (top 21)) t_floor_of :=
  jb_cons (js_asg (jv d.toJC 0 (mm 0) rfl) (jg_tup d.toJC.calm (jgs_cons (jg_name d.toJC 1 rfl (.inl (d.toJC.sC.loc 1 (mm 1) _ rfl))) (jgs_cons (jg_name d.toJC 2 rfl (.inl (d.toJC.sC.loc 2 (mm 2) _ rfl))) (jgs_cons (jg_name d.toJC 3 rfl (.inl (d.toJC.sC.loc 3 (mm 3) _ rfl))) (jgs_nil)))))) (jb_cons (js_set d.toJC 4 rfl (.inl (d.toJC.sC.loc 4 (mm 4) _ rfl)) (je_op opD_add (je_op opD_div (je_ix (jv d.toJC 1 (mm 1) rfl) (je_int)) (je_ix (jv d.toJC 1 (mm 1) rfl) (je_int))) (je_op opD_mul (jv d.toJC 2 (mm 2) rfl) (je_call d.toJC (Tj_whole_root T) (by decide) (mm 0) (ja_cons (je_op opD_div (je_ix (jv d.toJC 3 (mm 3) rfl) (je_int)) (je_ix (jv d.toJC 3 (mm 3) rfl) (je_int))) (ja_nil)))))) (jb_cons (js_while d (jt_cmp opD_lt (je_call d.toJC (Tj_compare T) (by decide) (mm 1) (ja_cons (jv d.toJC 0 (mm 0) rfl) (ja_cons (je_tup (ja_cons (je_tup (ja_cons (jv d.toJC 4 (mm 4) rfl) (ja_cons (je_int) (ja_nil)))) (ja_cons (je_int) (ja_cons (je_glob d.toJC (mm 2) (Tk_ZERO T)) (ja_nil))))) (ja_nil)))) (je_int) rfl) (jb_one (js_aug d.toJC 4 rfl (.inl (d.toJC.sC.loc 4 (mm 4) _ rfl)) (je_int) opD_isub))) (jb_cons (js_while d (jt_cmp opD_ge (je_call d.toJC (Tj_compare T) (by decide) (mm 1) (ja_cons (jv d.toJC 0 (mm 0) rfl) (ja_cons (je_tup (ja_cons (je_tup (ja_cons (je_op opD_add (jv d.toJC 4 (mm 4) rfl) (je_int)) (ja_cons (je_int) (ja_nil)))) (ja_cons (je_int) (ja_cons (je_glob d.toJC (mm 2) (Tk_ZERO T)) (ja_nil))))) (ja_nil)))) (je_int) rfl) (jb_one (js_aug d.toJC 4 rfl (.inl (d.toJC.sC.loc 4 (mm 4) _ rfl)) (je_int) opD_iadd))) (jb_one (js_ret (jv d.toJC 4 (mm 4) rfl))))))
theorem Tj_floor_of (T : Tp fa fn bx K mg) : JF P w K mg base "floor_of" 1 [] (fun ds _ => ds) 7 m_floor_of := by
  obtain ⟨fd, F⟩ := T.sy.def_ 14 (d := d_floor_of) rfl
  exact jf_mkN F fs_floor_of sc_floor_of (T.glo 33) ⟨rfl, by decide, by decide⟩ (fun _ _ _ _ _ _ us hl => match us, hl with | [_], _ => rfl) (fun X W d => body_floor_of T d)
theorem body_between (T : Tp fa fn bx K mg) {X : Cx} {W : WX} (d : JD P w K mg base nm_between (defScope (top 22)) vw_between 7 X W) : JB X W (defBody (top 22)) t_between :=
  jb_cons (js_asg (je_ifExp (jt_cmp opD_lt (je_call d.toJC (Tj_compare T) (by decide) (mm 0) (ja_cons (jv d.toJC 0 (mm 0) rfl) (ja_cons (jv d.toJC 1 (mm 1) rfl) (ja_nil)))) (je_int) rfl) (je_tup (ja_cons (jv d.toJC 0 (mm 0) rfl) (ja_cons (jv d.toJC 1 (mm 1) rfl) (ja_nil)))) (je_tup (ja_cons (jv d.toJC 1 (mm 1) rfl) (ja_cons (jv d.toJC 0 (mm 0) rfl) (ja_nil))))) (jg_tup d.toJC.calm (jgs_cons (jg_name d.toJC 2 rfl (.inl (d.toJC.sC.loc 2 (mm 2) _ rfl))) (jgs_cons (jg_name d.toJC 3 rfl (.inl (d.toJC.sC.loc 3 (mm 3) _ rfl))) (jgs_nil))))) (jb_cons (js_set d.toJC 4 rfl (.inl (d.toJC.sC.loc 4 (mm 4) _ rfl)) (je_int)) (jb_one (js_while d (jt_tru (je_bl)) (jb_cons (js_set d.toJC 5 rfl (.inl (d.toJC.sC.loc 5 (mm 5) _ rfl)) (je_op opD_add (je_call d.toJC (Tj_floor_of T) (by decide) (mm 1) (ja_cons (je_call d.toJC (Tj_scaled T) (by decide) (mm 2) (ja_cons (jv d.toJC 2 (mm 2) rfl) (ja_cons (je_tup (ja_cons (jv d.toJC 4 (mm 4) rfl) (ja_cons (je_int) (ja_nil)))) (ja_nil)))) (ja_nil))) (je_int))) (jb_cons (js_if (jt_cmp opD_lt (je_call d.toJC (Tj_compare T) (by decide) (mm 0) (ja_cons (je_tup (ja_cons (je_tup (ja_cons (jv d.toJC 5 (mm 5) rfl) (ja_cons (jv d.toJC 4 (mm 4) rfl) (ja_nil)))) (ja_cons (je_int) (ja_cons (je_glob d.toJC (mm 3) (Tk_ZERO T)) (ja_nil))))) (ja_cons (jv d.toJC 3 (mm 3) rfl) (ja_nil)))) (je_int) rfl) (jb_one (js_ret (je_call d.toJC (Tj_frac T) (by decide) (mm 4) (ja_cons (jv d.toJC 5 (mm 5) rfl) (ja_cons (jv d.toJC 4 (mm 4) rfl) (ja_nil)))))) (jb_nil)) (jb_one (js_aug d.toJC 4 rfl (.inl (d.toJC.sC.loc 4 (mm 4) _ rfl)) (je_int) opD_imul)))))))
theorem Tj_between (T : Tp fa fn bx K mg) : JF P w K mg base "between" 2 [] (fun ds _ => ds) 8 m_between := by
  obtain ⟨fd, F⟩ := T.sy.def_ 15 (d := d_between) rfl
  exact jf_mkN F fs_between sc_between (T.glo 17) ⟨rfl, by decide, by decide⟩ (fun _ _ _ _ _ _ us hl => match us, hl with | [_, _], _ => rfl) (fun X W d => body_between T d)
theorem body_l_cell_at (T : Tp fa fn bx K mg) {X : Cx} {W : WX} (d : JD P w K mg base nm_l_cell_at (defScope (top 24)) vw_l_cell_at 0 X W) : JB X W (defBody (top 24)) t_l_cell_at :=
  jb_cons (js_if (jt_cmp opD_lt (jv d.toJC 1 (mm 1) rfl) (je_callB d.toJC cd_len (mm 0) (T.free 2) (by decide +kernel) (ja_cons (jv d.toJC 0 (mm 0) rfl) (ja_nil))) rfl) (jb_one (js_ret (je_ix (jv d.toJC 0 (mm 0) rfl) (jv d.toJC 1 (mm 1) rfl)))) (jb_nil)) (jb_one (js_ret (je_int)))
theorem Tj_l_cell_at (T : Tp fa fn bx K mg) : JF P w K mg base "_law_cell_at" 2 [] (fun ds _ => ds) 1 m_l_cell_at := by
  obtain ⟨fd, F⟩ := T.sy.def_ 16 (d := d_l_cell_at) rfl
  exact jf_mkN F fs_l_cell_at sc_l_cell_at (T.glo 34) ⟨rfl, by decide, by decide⟩ (fun _ _ _ _ _ _ us hl => match us, hl with | [_, _], _ => rfl) (fun X W d => body_l_cell_at T d)
theorem body_l_bag (T : Tp fa fn bx K mg) {X : Cx} {W : WX} (d : JD P w K mg base nm_l_bag (defScope (top 25)) vw_l_bag 1 X W) : JB X W (defBody (top 25)) t_l_bag :=
  jb_cons (js_set d.toJC 2 rfl (.inl (d.toJC.sC.loc 2 (mm 2) _ rfl)) (je_tup (ja_cons (je_int) (ja_cons (je_int) (ja_cons (je_int) (ja_cons (je_int) (ja_cons (je_int) (ja_cons (je_int) (ja_cons (je_int) (ja_cons (je_int) (ja_cons (je_int) (ja_nil)))))))))))) (jb_cons (js_set d.toJC 3 rfl (.inl (d.toJC.sC.loc 3 (mm 3) _ rfl)) (je_call d.toJC (Tj_l_cell_at T) (by decide) (mm 0) (ja_cons (jv d.toJC 0 (mm 0) rfl) (ja_cons (jv d.toJC 1 (mm 1) rfl) (ja_nil))))) (jb_cons (js_set d.toJC 4 rfl (.inl (d.toJC.sC.loc 4 (mm 4) _ rfl)) (je_op opD_add (je_op opD_mul (je_int) (jv d.toJC 1 (mm 1) rfl)) (je_int))) (jb_cons (js_for d (ji_r1 d.toJC (mm 1) (T.free 0) (ja_cons (je_int) (ja_nil))) (jg_name d.toJC 5 rfl (.inl (d.toJC.sC.loc 5 (mm 5) _ rfl))) (jb_cons (js_set d.toJC 6 rfl (.inl (d.toJC.sC.loc 6 (mm 6) _ rfl)) (je_op opD_add (je_op opD_add (je_op opD_mod (je_call d.toJC (Tj_l_cell_at T) (by decide) (mm 0) (ja_cons (jv d.toJC 0 (mm 0) rfl) (ja_cons (je_op opD_add (jv d.toJC 1 (mm 1) rfl) (jv d.toJC 5 (mm 5) rfl)) (ja_nil)))) (je_op opD_pow (je_int) (je_int))) (je_op opD_mul (je_int) (jv d.toJC 5 (mm 5) rfl))) (je_int))) (jb_one (js_set d.toJC 4 rfl (.inl (d.toJC.sC.loc 4 (mm 4) _ rfl)) (je_op opD_mod (je_op opD_add (je_op opD_mul (jv d.toJC 4 (mm 4) rfl) (je_int)) (je_op opD_mod (je_op opD_pow (jv d.toJC 6 (mm 6) rfl) (je_int)) (je_ix (jv d.toJC 2 (mm 2) rfl) (jv d.toJC 5 (mm 5) rfl)))) (je_int)))))) (jb_cons (js_if (jt_cmp opD_lt (jv d.toJC 3 (mm 3) rfl) (je_op opD_pow (je_int) (je_int)) rfl) (jb_one (js_set d.toJC 3 rfl (.inl (d.toJC.sC.loc 3 (mm 3) _ rfl)) (je_int))) (jb_nil)) (jb_one (js_ret (je_lstR (ja_cons (jv d.toJC 3 (mm 3) rfl) (ja_cons (je_op opD_add (jv d.toJC 4 (mm 4) rfl) (je_int)) (ja_nil))))))))))
theorem Tj_l_bag (T : Tp fa fn bx K mg) : JF P w K mg base "_law_bag" 2 [] (fun ds _ => ds) 2 m_l_bag := by
  obtain ⟨fd, F⟩ := T.sy.def_ 17 (d := d_l_bag) rfl
  exact jf_mkN F fs_l_bag sc_l_bag (T.glo 3) ⟨rfl, by decide, by decide⟩ (fun _ _ _ _ _ _ us hl => match us, hl with | [_, _], _ => rfl) (fun X W d => body_l_bag T d)
theorem body_l_take (T : Tp fa fn bx K mg) {X : Cx} {W : WX} (d : JD P w K mg base nm_l_take (defScope (top 26)) vw_l_take 0 X W) : JB X W (defBody (top 26)) t_l_take :=
  jb_cons (js_if (jt_cmp opD_gt (je_ix (jv d.toJC 0 (mm 0) rfl) (je_int)) (je_int) rfl) (jb_cons (js_set d.toJC 2 rfl (.inl (d.toJC.sC.loc 2 (mm 2) _ rfl)) (je_op opD_mod (je_ix (jv d.toJC 0 (mm 0) rfl) (je_int)) (jv d.toJC 1 (mm 1) rfl))) (jb_cons (js_sub (jv d.toJC 0 (mm 0) rfl) (je_int) (je_op opD_div (je_ix (jv d.toJC 0 (mm 0) rfl) (je_int)) (jv d.toJC 1 (mm 1) rfl))) (jb_one (js_ret (jv d.toJC 2 (mm 2) rfl))))) (jb_nil)) (jb_cons (js_sub (jv d.toJC 0 (mm 0) rfl) (je_int) (je_op opD_mod (je_op opD_mul (je_ix (jv d.toJC 0 (mm 0) rfl) (je_int)) (je_int)) (je_int))) (jb_one (js_ret (je_op opD_mod (je_op opD_mod (je_op opD_mod (je_op opD_pow (je_ix (jv d.toJC 0 (mm 0) rfl) (je_int)) (je_int)) (je_int)) (je_int)) (jv d.toJC 1 (mm 1) rfl)))))
theorem Tj_l_take (T : Tp fa fn bx K mg) : JF P w K mg base "_law_take" 2 [] (fun ds _ => ds) 1 m_l_take := by
  obtain ⟨fd, F⟩ := T.sy.def_ 18 (d := d_l_take) rfl
  exact jf_mkN F fs_l_take sc_l_take (T.glo 5) ⟨rfl, by decide, by decide⟩ (fun _ _ _ _ _ _ us hl => match us, hl with | [_, _], _ => rfl) (fun X W d => body_l_take T d)
theorem body_l_low (T : Tp fa fn bx K mg) {X : Cx} {W : WX} (d : JD P w K mg base nm_l_low (defScope (top 27)) vw_l_low 0 X W) : JB X W (defBody (top 27)) t_l_low :=
  jb_cons (js_if (jt_cmp opD_lt (jv d.toJC 1 (mm 1) rfl) (je_int) rfl) (jb_one (js_par d.toJC 0 1 rfl rfl (by decide) (d.toJC.sC.loc 0 (mm 0) _ rfl) (d.toJC.sC.loc 1 (mm 1) _ rfl) (ja_cons (je_op opD_sub (je_int) (jv d.toJC 0 (mm 0) rfl)) (ja_cons (je_op opD_sub (je_int) (jv d.toJC 1 (mm 1) rfl)) (ja_nil))) (sw2 d.toJC.kd (by rw [d.toJC.ss]; exact (d.toJC.sC.loc 0 (mm 0) _ rfl)) (by rw [d.toJC.ss]; exact (d.toJC.sC.loc 1 (mm 1) _ rfl)) rfl (by decide +kernel) rfl rfl rfl))) (jb_nil)) (jb_cons (js_par d.toJC 2 3 rfl rfl (by decide) (d.toJC.sC.loc 2 (mm 2) _ rfl) (d.toJC.sC.loc 3 (mm 3) _ rfl) (ja_cons (je_callB d.toJC cd_abs (mm 0) (T.free 12) (by decide +kernel) (ja_cons (jv d.toJC 0 (mm 0) rfl) (ja_nil))) (ja_cons (jv d.toJC 1 (mm 1) rfl) (ja_nil))) (sw2 d.toJC.kd (by rw [d.toJC.ss]; exact (d.toJC.sC.loc 2 (mm 2) _ rfl)) (by rw [d.toJC.ss]; exact (d.toJC.sC.loc 3 (mm 3) _ rfl)) rfl (by decide +kernel) rfl rfl rfl)) (jb_cons (js_while d (jt_cmp opD_gt (jv d.toJC 2 (mm 2) rfl) (je_int) rfl) (jb_one (js_par d.toJC 2 3 rfl rfl (by decide) (d.toJC.sC.loc 2 (mm 2) _ rfl) (d.toJC.sC.loc 3 (mm 3) _ rfl) (ja_cons (je_op opD_mod (jv d.toJC 3 (mm 3) rfl) (jv d.toJC 2 (mm 2) rfl)) (ja_cons (jv d.toJC 2 (mm 2) rfl) (ja_nil))) (sw2 d.toJC.kd (by rw [d.toJC.ss]; exact (d.toJC.sC.loc 2 (mm 2) _ rfl)) (by rw [d.toJC.ss]; exact (d.toJC.sC.loc 3 (mm 3) _ rfl)) rfl (by decide +kernel) rfl rfl rfl)))) (jb_one (js_ret (je_tup (ja_cons (je_op opD_div (jv d.toJC 0 (mm 0) rfl) (jv d.toJC 3 (mm 3) rfl)) (ja_cons (je_op opD_div (jv d.toJC 1 (mm 1) rfl) (jv d.toJC 3 (mm 3) rfl)) (ja_nil))))))))
theorem Tj_l_low (T : Tp fa fn bx K mg) : JF P w K mg base "_law_low" 2 [] (fun ds _ => ds) 1 m_l_low := by
  obtain ⟨fd, F⟩ := T.sy.def_ 19 (d := d_l_low) rfl
  exact jf_mkN F fs_l_low sc_l_low (T.glo 10) ⟨rfl, by decide, by decide⟩ (fun _ _ _ _ _ _ us hl => match us, hl with | [_, _], _ => rfl) (fun X W d => body_l_low T d)
theorem body_l_number (T : Tp fa fn bx K mg) {X : Cx} {W : WX} (d : JD P w K mg base nm_l_number (defScope (top 31)) vw_l_number 1 X W) : JB X W (defBody (top 31)) t_l_number :=
  jb_cons (js_set d.toJC 1 rfl (.inl (d.toJC.sC.loc 1 (mm 1) _ rfl)) (je_ix (je_lst (ja_cons (je_int) (ja_cons (je_int) (ja_cons (je_int) (ja_cons (je_op opD_pow (je_int) (je_int)) (ja_nil)))))) (je_call d.toJC (Tj_l_take T) (by decide) (mm 0) (ja_cons (jv d.toJC 0 (mm 0) rfl) (ja_cons (je_int) (ja_nil)))))) (jb_cons (js_set d.toJC 2 rfl (.inl (d.toJC.sC.loc 2 (mm 2) _ rfl)) (je_op opD_mul (je_call d.toJC (Tj_l_take T) (by decide) (mm 0) (ja_cons (jv d.toJC 0 (mm 0) rfl) (ja_cons (jv d.toJC 1 (mm 1) rfl) (ja_nil)))) (je_op opD_sub (je_int) (je_op opD_mul (je_int) (je_call d.toJC (Tj_l_take T) (by decide) (mm 0) (ja_cons (jv d.toJC 0 (mm 0) rfl) (ja_cons (je_int) (ja_nil)))))))) (jb_one (js_ret (je_call d.toJC (Tj_l_low T) (by decide) (mm 1) (ja_cons (jv d.toJC 2 (mm 2) rfl) (ja_cons (je_ix (je_lst (ja_cons (je_int) (ja_cons (je_op opD_add (je_int) (je_call d.toJC (Tj_l_take T) (by decide) (mm 0) (ja_cons (jv d.toJC 0 (mm 0) rfl) (ja_cons (jv d.toJC 1 (mm 1) rfl) (ja_nil))))) (ja_nil)))) (je_call d.toJC (Tj_l_take T) (by decide) (mm 0) (ja_cons (jv d.toJC 0 (mm 0) rfl) (ja_cons (je_int) (ja_nil))))) (ja_nil)))))))
theorem Tj_l_number (T : Tp fa fn bx K mg) : JF P w K mg base "_law_number" 1 [] (fun ds _ => ds) 2 m_l_number := by
  obtain ⟨fd, F⟩ := T.sy.def_ 20 (d := d_l_number) rfl
  exact jf_mkN F fs_l_number sc_l_number (T.glo 4) ⟨rfl, by decide, by decide⟩ (fun _ _ _ _ _ _ us hl => match us, hl with | [_], _ => rfl) (fun X W d => body_l_number T d)
theorem body_l_square (T : Tp fa fn bx K mg) {X : Cx} {W : WX} (d : JD P w K mg base nm_l_square (defScope (top 32)) vw_l_square 2 X W) : JB X W (defBody (top 32)) t_l_square :=
  jb_cons (js_asg (je_call d.toJC (Tj_l_number T) (by decide) (mm 0) (ja_cons (jv d.toJC 0 (mm 0) rfl) (ja_nil))) (jg_tup d.toJC.calm (jgs_cons (jg_name d.toJC 1 rfl (.inl (d.toJC.sC.loc 1 (mm 1) _ rfl))) (jgs_cons (jg_name d.toJC 2 rfl (.inl (d.toJC.sC.loc 2 (mm 2) _ rfl))) (jgs_nil))))) (jb_cons (js_if (jt_cmp (opD_eq d.toJC.room) (je_call d.toJC (Tj_l_take T) (by decide) (mm 1) (ja_cons (jv d.toJC 0 (mm 0) rfl) (ja_cons (je_int) (ja_nil)))) (je_int) rfl) (jb_one (js_ret (je_call d.toJC (Tj_l_low T) (by decide) (mm 2) (ja_cons (je_op opD_mul (jv d.toJC 1 (mm 1) rfl) (jv d.toJC 1 (mm 1) rfl)) (ja_cons (je_op opD_mul (jv d.toJC 2 (mm 2) rfl) (jv d.toJC 2 (mm 2) rfl)) (ja_nil)))))) (jb_nil)) (jb_one (js_ret (je_tup (ja_cons (je_callB d.toJC cd_abs (mm 3) (T.free 12) (by decide +kernel) (ja_cons (jv d.toJC 1 (mm 1) rfl) (ja_nil))) (ja_cons (jv d.toJC 2 (mm 2) rfl) (ja_nil)))))))
theorem Tj_l_square (T : Tp fa fn bx K mg) : JF P w K mg base "_law_square" 1 [] (fun ds _ => ds) 3 m_l_square := by
  obtain ⟨fd, F⟩ := T.sy.def_ 21 (d := d_l_square) rfl
  exact jf_mkN F fs_l_square sc_l_square (T.glo 6) ⟨rfl, by decide, by decide⟩ (fun _ _ _ _ _ _ us hl => match us, hl with | [_], _ => rfl) (fun X W d => body_l_square T d)
theorem body_l_plus (T : Tp fa fn bx K mg) {X : Cx} {W : WX} (d : JD P w K mg base nm_l_plus (defScope (top 28)) vw_l_plus 1 X W) : JB X W (defBody (top 28)) t_l_plus :=
  jb_one (js_ret (je_call d.toJC (Tj_l_low T) (by decide) (mm 0) (ja_cons (je_op opD_add (je_op opD_mul (je_ix (jv d.toJC 0 (mm 0) rfl) (je_int)) (je_ix (jv d.toJC 1 (mm 1) rfl) (je_int))) (je_op opD_mul (je_ix (jv d.toJC 1 (mm 1) rfl) (je_int)) (je_ix (jv d.toJC 0 (mm 0) rfl) (je_int)))) (ja_cons (je_op opD_mul (je_ix (jv d.toJC 0 (mm 0) rfl) (je_int)) (je_ix (jv d.toJC 1 (mm 1) rfl) (je_int))) (ja_nil)))))
theorem Tj_l_plus (T : Tp fa fn bx K mg) : JF P w K mg base "_law_plus" 2 [] (fun ds _ => ds) 2 m_l_plus := by
  obtain ⟨fd, F⟩ := T.sy.def_ 22 (d := d_l_plus) rfl
  exact jf_mkN F fs_l_plus sc_l_plus (T.glo 36) ⟨rfl, by decide, by decide⟩ (fun _ _ _ _ _ _ us hl => match us, hl with | [_, _], _ => rfl) (fun X W d => body_l_plus T d)
theorem body_l_root_of (T : Tp fa fn bx K mg) {X : Cx} {W : WX} (d : JD P w K mg base nm_l_root_of (defScope (top 33)) vw_l_root_of 0 X W) : JB X W (defBody (top 33)) t_l_root_of :=
  jb_cons (js_par d.toJC 1 2 rfl rfl (by decide) (d.toJC.sC.loc 1 (mm 1) _ rfl) (d.toJC.sC.loc 2 (mm 2) _ rfl) (ja_cons (je_int) (ja_cons (je_op opD_add (jv d.toJC 0 (mm 0) rfl) (je_int)) (ja_nil))) (sw2 d.toJC.kd (by rw [d.toJC.ss]; exact (d.toJC.sC.loc 1 (mm 1) _ rfl)) (by rw [d.toJC.ss]; exact (d.toJC.sC.loc 2 (mm 2) _ rfl)) rfl (by decide +kernel) rfl rfl rfl)) (jb_cons (js_while d (jt_cmp opD_gt (je_op opD_sub (jv d.toJC 2 (mm 2) rfl) (jv d.toJC 1 (mm 1) rfl)) (je_int) rfl) (jb_cons (js_set d.toJC 3 rfl (.inl (d.toJC.sC.loc 3 (mm 3) _ rfl)) (je_op opD_div (je_op opD_add (jv d.toJC 1 (mm 1) rfl) (jv d.toJC 2 (mm 2) rfl)) (je_int))) (jb_one (js_if (jt_cmp opD_le (je_op opD_mul (jv d.toJC 3 (mm 3) rfl) (jv d.toJC 3 (mm 3) rfl)) (jv d.toJC 0 (mm 0) rfl) rfl) (jb_one (js_set d.toJC 1 rfl (.inl (d.toJC.sC.loc 1 (mm 1) _ rfl)) (jv d.toJC 3 (mm 3) rfl))) (jb_one (js_set d.toJC 2 rfl (.inl (d.toJC.sC.loc 2 (mm 2) _ rfl)) (jv d.toJC 3 (mm 3) rfl))))))) (jb_one (js_ret (jv d.toJC 1 (mm 1) rfl))))
theorem Tj_l_root_of (T : Tp fa fn bx K mg) : JF P w K mg base "_law_root_of" 1 [] (fun ds _ => ds) 1 m_l_root_of := by
  obtain ⟨fd, F⟩ := T.sy.def_ 23 (d := d_l_root_of) rfl
  exact jf_mkN F fs_l_root_of sc_l_root_of (T.glo 35) ⟨rfl, by decide, by decide⟩ (fun _ _ _ _ _ _ us hl => match us, hl with | [_], _ => rfl) (fun X W d => body_l_root_of T d)
theorem body_l_canonical (T : Tp fa fn bx K mg) {X : Cx} {W : WX} (d : JD P w K mg base nm_l_canonical (defScope (top 34)) vw_l_canonical 2 X W) : JB X W (defBody (top 34)) t_l_canonical :=
  jb_cons (js_if (jt_w (jw_or (jt_cmp (opD_eq d.toJC.room) (jv d.toJC 1 (mm 1) rfl) (je_int) rfl) (jw_or1 (jt_cmp (opD_eq d.toJC.room) (je_ix (jv d.toJC 2 (mm 2) rfl) (je_int)) (je_int) rfl)))) (jb_one (js_ret (je_tup (ja_cons (jv d.toJC 0 (mm 0) rfl) (ja_cons (je_int) (ja_cons (je_tup (ja_cons (je_int) (ja_cons (je_int) (ja_nil)))) (ja_nil))))))) (jb_nil)) (jb_cons (js_par d.toJC 3 4 rfl rfl (by decide) (d.toJC.sC.loc 3 (mm 3) _ rfl) (d.toJC.sC.loc 4 (mm 4) _ rfl) (ja_cons (je_call d.toJC (Tj_l_root_of T) (by decide) (mm 0) (ja_cons (je_ix (jv d.toJC 2 (mm 2) rfl) (je_int)) (ja_nil))) (ja_cons (je_call d.toJC (Tj_l_root_of T) (by decide) (mm 0) (ja_cons (je_ix (jv d.toJC 2 (mm 2) rfl) (je_int)) (ja_nil))) (ja_nil))) (sw2 d.toJC.kd (by rw [d.toJC.ss]; exact (d.toJC.sC.loc 3 (mm 3) _ rfl)) (by rw [d.toJC.ss]; exact (d.toJC.sC.loc 4 (mm 4) _ rfl)) rfl (by decide +kernel) rfl rfl rfl)) (jb_cons (js_if (jt_w (jw_and (jt_cmp (opD_eq d.toJC.room) (je_op opD_mul (jv d.toJC 3 (mm 3) rfl) (jv d.toJC 3 (mm 3) rfl)) (je_ix (jv d.toJC 2 (mm 2) rfl) (je_int)) rfl) (jw_and1 (jt_cmp (opD_eq d.toJC.room) (je_op opD_mul (jv d.toJC 4 (mm 4) rfl) (jv d.toJC 4 (mm 4) rfl)) (je_ix (jv d.toJC 2 (mm 2) rfl) (je_int)) rfl)))) (jb_one (js_ret (je_tup (ja_cons (je_call d.toJC (Tj_l_plus T) (by decide) (mm 1) (ja_cons (jv d.toJC 0 (mm 0) rfl) (ja_cons (je_tup (ja_cons (je_op opD_mul (jv d.toJC 1 (mm 1) rfl) (jv d.toJC 3 (mm 3) rfl)) (ja_cons (jv d.toJC 4 (mm 4) rfl) (ja_nil)))) (ja_nil)))) (ja_cons (je_int) (ja_cons (je_tup (ja_cons (je_int) (ja_cons (je_int) (ja_nil)))) (ja_nil))))))) (jb_nil)) (jb_one (js_ret (je_tup (ja_cons (jv d.toJC 0 (mm 0) rfl) (ja_cons (jv d.toJC 1 (mm 1) rfl) (ja_cons (jv d.toJC 2 (mm 2) rfl) (ja_nil)))))))))
theorem Tj_l_canonical (T : Tp fa fn bx K mg) : JF P w K mg base "_law_canonical" 3 [] (fun ds _ => ds) 3 m_l_canonical := by
  obtain ⟨fd, F⟩ := T.sy.def_ 24 (d := d_l_canonical) rfl
  exact jf_mkN F fs_l_canonical sc_l_canonical (T.glo 7) ⟨rfl, by decide, by decide⟩ (fun _ _ _ _ _ _ us hl => match us, hl with | [_, _, _], _ => rfl) (fun X W d => body_l_canonical T d)
theorem body_l_bounds (T : Tp fa fn bx K mg) {X : Cx} {W : WX} (d : JD P w K mg base nm_l_bounds (defScope (top 35)) vw_l_bounds 1 X W) : JB X W (defBody (top 35)) t_l_bounds :=
  jb_cons (js_asg (jv d.toJC 0 (mm 0) rfl) (jg_tup d.toJC.calm (jgs_cons (jg_tup d.toJC.calm (jgs_cons (jg_name d.toJC 2 rfl (.inl (d.toJC.sC.loc 2 (mm 2) _ rfl))) (jgs_cons (jg_name d.toJC 3 rfl (.inl (d.toJC.sC.loc 3 (mm 3) _ rfl))) (jgs_nil)))) (jgs_cons (jg_name d.toJC 4 rfl (.inl (d.toJC.sC.loc 4 (mm 4) _ rfl))) (jgs_cons (jg_tup d.toJC.calm (jgs_cons (jg_name d.toJC 5 rfl (.inl (d.toJC.sC.loc 5 (mm 5) _ rfl))) (jgs_cons (jg_name d.toJC 6 rfl (.inl (d.toJC.sC.loc 6 (mm 6) _ rfl))) (jgs_nil)))) (jgs_nil)))))) (jb_cons (js_set d.toJC 7 rfl (.inl (d.toJC.sC.loc 7 (mm 7) _ rfl)) (je_op opD_div (je_call d.toJC (Tj_l_root_of T) (by decide) (mm 0) (ja_cons (je_op opD_mul (je_op opD_mul (je_op opD_mul (jv d.toJC 5 (mm 5) rfl) (jv d.toJC 6 (mm 6) rfl)) (jv d.toJC 1 (mm 1) rfl)) (jv d.toJC 1 (mm 1) rfl)) (ja_nil))) (jv d.toJC 6 (mm 6) rfl))) (jb_cons (js_set d.toJC 8 rfl (.inl (d.toJC.sC.loc 8 (mm 8) _ rfl)) (je_callB d.toJC cd_sort (mm 1) (T.free 37) (by decide +kernel) (ja_cons (je_lst (ja_cons (je_op opD_mul (jv d.toJC 4 (mm 4) rfl) (jv d.toJC 7 (mm 7) rfl)) (ja_cons (je_op opD_mul (jv d.toJC 4 (mm 4) rfl) (je_op opD_add (jv d.toJC 7 (mm 7) rfl) (je_int))) (ja_nil)))) (ja_nil)))) (jb_one (js_ret (je_tup (ja_cons (je_op opD_sub (je_op opD_add (je_op opD_div (je_op opD_mul (jv d.toJC 2 (mm 2) rfl) (jv d.toJC 1 (mm 1) rfl)) (jv d.toJC 3 (mm 3) rfl)) (je_ix (jv d.toJC 8 (mm 8) rfl) (je_int))) (je_int)) (ja_cons (je_op opD_add (je_op opD_add (je_op opD_div (je_op opD_mul (jv d.toJC 2 (mm 2) rfl) (jv d.toJC 1 (mm 1) rfl)) (jv d.toJC 3 (mm 3) rfl)) (je_ix (jv d.toJC 8 (mm 8) rfl) (je_int))) (je_int)) (ja_nil))))))))
theorem Tj_l_bounds (T : Tp fa fn bx K mg) : JF P w K mg base "_law_bounds" 2 [] (fun ds _ => ds) 2 m_l_bounds := by
  obtain ⟨fd, F⟩ := T.sy.def_ 25 (d := d_l_bounds) rfl
  exact jf_mkN F fs_l_bounds sc_l_bounds (T.glo 9) ⟨rfl, by decide, by decide⟩ (fun _ _ _ _ _ _ us hl => match us, hl with | [_, _], _ => rfl) (fun X W d => body_l_bounds T d)
theorem body_l_tens (T : Tp fa fn bx K mg) {X : Cx} {W : WX} (d : JD P w K mg base nm_l_tens (defScope (top 37)) vw_l_tens 0 X W) : JB X W (defBody (top 37)) t_l_tens :=
  jb_cons (js_set d.toJC 1 rfl (.inl (d.toJC.sC.loc 1 (mm 1) _ rfl)) (je_int)) (jb_cons (js_for d (ji_r1 d.toJC (mm 0) (T.free 0) (ja_cons (jv d.toJC 0 (mm 0) rfl) (ja_nil))) (jg_name d.toJC 2 rfl (.inl (d.toJC.sC.loc 2 (mm 2) _ rfl))) (jb_one (js_set d.toJC 1 rfl (.inl (d.toJC.sC.loc 1 (mm 1) _ rfl)) (je_op opD_mul (jv d.toJC 1 (mm 1) rfl) (je_int))))) (jb_one (js_ret (jv d.toJC 1 (mm 1) rfl))))
theorem Tj_l_tens (T : Tp fa fn bx K mg) : JF P w K mg base "_law_tens" 1 [] (fun ds _ => ds) 1 m_l_tens := by
  obtain ⟨fd, F⟩ := T.sy.def_ 26 (d := d_l_tens) rfl
  exact jf_mkN F fs_l_tens sc_l_tens (T.glo 8) ⟨rfl, by decide, by decide⟩ (fun _ _ _ _ _ _ us hl => match us, hl with | [_], _ => rfl) (fun X W d => body_l_tens T d)
theorem body_l_rows_right (T : Tp fa fn bx K mg) {X : Cx} {W : WX} (d : JD P w K mg base nm_l_rows_right (defScope (top 38)) vw_l_rows_right 7 X W) : JB X W (defBody (top 38)) t_l_rows_right :=
  jb_cons (js_for d (ji_enum d.toJC (mm 0) (T.free 38) (jv d.toJC 0 (mm 0) rfl)) (jg_tup d.toJC.calm (jgs_cons (jg_name d.toJC 1 rfl (.inl (d.toJC.sC.loc 1 (mm 1) _ rfl))) (jgs_cons (jg_name d.toJC 2 rfl (.inl (d.toJC.sC.loc 2 (mm 2) _ rfl))) (jgs_nil)))) (jb_one (js_for d (ji_val (je_sl (jv d.toJC 0 (mm 0) rfl) (jo_some (jv d.toJC 1 (mm 1) rfl)) (jo_none))) (jg_name d.toJC 3 rfl (.inl (d.toJC.sC.loc 3 (mm 3) _ rfl))) (jb_cons (js_set d.toJC 4 rfl (.inl (d.toJC.sC.loc 4 (mm 4) _ rfl)) (je_call d.toJC (Tj_compare T) (by decide) (mm 1) (ja_cons (jv d.toJC 2 (mm 2) rfl) (ja_cons (jv d.toJC 3 (mm 3) rfl) (ja_nil))))) (jb_cons (js_if (jt_w (jw_or (jt_cmp (opD_eq d.toJC.room) (jv d.toJC 4 (mm 4) rfl) (je_int) rfl) (jw_or (jt_cmp (opD_ne d.toJC.room) (je_call d.toJC (Tj_compare T) (by decide) (mm 1) (ja_cons (jv d.toJC 3 (mm 3) rfl) (ja_cons (jv d.toJC 2 (mm 2) rfl) (ja_nil)))) (je_op opD_sub (je_int) (jv d.toJC 4 (mm 4) rfl)) rfl) (jw_or1 (jt_cmp (opD_ne d.toJC.room) (je_cmp (opD_eq d.toJC.room) (jv d.toJC 4 (mm 4) rfl) (je_int) rfl) (je_cmp (opD_eq d.toJC.room) (jv d.toJC 2 (mm 2) rfl) (jv d.toJC 3 (mm 3) rfl) rfl) rfl))))) (jb_one (js_ret (je_bl))) (jb_nil)) (jb_one (js_if (jt_cmp opD_gt (je_call d.toJC (Tj_floor_of T) (by decide) (mm 2) (ja_cons (jv d.toJC 2 (mm 2) rfl) (ja_nil))) (je_call d.toJC (Tj_floor_of T) (by decide) (mm 2) (ja_cons (jv d.toJC 3 (mm 3) rfl) (ja_nil))) rfl) (jb_one (js_ret (je_bl))) (jb_nil)))))))) (jb_one (js_ret (je_bl)))
theorem Tj_l_rows_right (T : Tp fa fn bx K mg) : JF P w K mg base "_law_rows_right" 1 [] (fun ds _ => ds) 8 m_l_rows_right := by
  obtain ⟨fd, F⟩ := T.sy.def_ 27 (d := d_l_rows_right) rfl
  exact jf_mkN F fs_l_rows_right sc_l_rows_right (T.glo 16) ⟨rfl, by decide, by decide⟩ (fun _ _ _ _ _ _ us hl => match us, hl with | [_], _ => rfl) (fun X W d => body_l_rows_right T d)
theorem body_law (T : Tp fa fn bx K mg) {X : Cx} {W : WX} (d : JD P w K mg base nm_law (defScope (top 39)) vw_law 8 X W) : JB X W (defBody (top 39)) t_law :=
  jb_cons (js_for d (ji_r1 d.toJC (mm 0) (T.free 0) (ja_cons (je_op opD_add (je_int) (je_callB d.toJC (cd_min d.toJC.calm) (mm 1) (T.free 1) (by decide +kernel) (ja_cons (je_int) (ja_cons (je_callB d.toJC cd_len (mm 2) (T.free 2) (by decide +kernel) (ja_cons (jv d.toJC 0 (mm 0) rfl) (ja_nil))) (ja_nil))))) (ja_nil))) (jg_name d.toJC 1 rfl (.inl (d.toJC.sC.loc 1 (mm 1) _ rfl))) (jb_cons (js_set d.toJC 2 rfl (.inl (d.toJC.sC.loc 2 (mm 2) _ rfl)) (je_call d.toJC (Tj_l_bag T) (by decide) (mm 3) (ja_cons (jv d.toJC 0 (mm 0) rfl) (ja_cons (jv d.toJC 1 (mm 1) rfl) (ja_nil))))) (jb_cons (js_set d.toJC 3 rfl (.inl (d.toJC.sC.loc 3 (mm 3) _ rfl)) (je_lstR (ja_nil))) (jb_cons (js_for d (ji_r1 d.toJC (mm 0) (T.free 0) (ja_cons (je_int) (ja_nil))) (jg_name d.toJC 4 rfl (.inl (d.toJC.sC.loc 4 (mm 4) _ rfl))) (jb_cons (js_set d.toJC 5 rfl (.inr ⟨d.toJC.sC.cel 5 (mm 0) _ rfl, d.fn⟩) (je_call d.toJC (Tj_l_canonical T) (by decide) (mm 4) (ja_cons (je_call d.toJC (Tj_l_number T) (by decide) (mm 5) (ja_cons (jv d.toJC 2 (mm 2) rfl) (ja_nil))) (ja_cons (je_op opD_sub (je_call d.toJC (Tj_l_take T) (by decide) (mm 6) (ja_cons (jv d.toJC 2 (mm 2) rfl) (ja_cons (je_int) (ja_nil)))) (je_int)) (ja_cons (je_call d.toJC (Tj_l_square T) (by decide) (mm 7) (ja_cons (jv d.toJC 2 (mm 2) rfl) (ja_nil))) (ja_nil)))))) (jb_cons (js_if (jt_w (jw_and (jt_cmp (opD_neR d.toJC.room) (jv d.toJC 3 (mm 3) rfl) (je_lst (ja_nil)) rfl) (jw_and1 (jt_cmp (opD_eq d.toJC.room) (je_call d.toJC (Tj_l_take T) (by decide) (mm 6) (ja_cons (jv d.toJC 2 (mm 2) rfl) (ja_cons (je_int) (ja_nil)))) (je_int) rfl)))) (jb_cons (js_set d.toJC 6 rfl (.inr ⟨d.toJC.sC.cel 6 (mm 1) _ rfl, d.fn⟩) (je_call d.toJC (Tj_l_tens T) (by decide) (mm 8) (ja_cons (je_op opD_add (je_int) (je_call d.toJC (Tj_l_take T) (by decide) (mm 6) (ja_cons (jv d.toJC 2 (mm 2) rfl) (ja_cons (je_int) (ja_nil))))) (ja_nil)))) (jb_one (js_set d.toJC 5 rfl (.inr ⟨d.toJC.sC.cel 5 (mm 0) _ rfl, d.fn⟩) (je_tup (ja_cons (je_call d.toJC (Tj_l_low T) (by decide) (mm 9) (ja_cons (je_op opD_add (je_ix (je_call d.toJC (Tj_l_bounds T) (by decide) (mm 10) (ja_cons (je_ix (jv d.toJC 3 (mm 3) rfl) (je_neg (je_int))) (ja_cons (jv d.toJC 6 (mm 6) rfl) (ja_nil)))) (je_int)) (je_call d.toJC (Tj_l_take T) (by decide) (mm 6) (ja_cons (jv d.toJC 2 (mm 2) rfl) (ja_cons (je_int) (ja_nil))))) (ja_cons (jv d.toJC 6 (mm 6) rfl) (ja_nil)))) (ja_cons (je_int) (ja_cons (je_tup (ja_cons (je_int) (ja_cons (je_int) (ja_nil)))) (ja_nil)))))))) (jb_nil)) (jb_cons (js_set d.toJC 7 rfl (.inl (d.toJC.sC.loc 7 (mm 5) _ rfl)) (je_callB d.toJC cd_len (mm 2) (T.free 2) (by decide +kernel) (ja_cons (je_lcG d.toJC (own := [(".0", 12), ("_law_other", 13)]) (vw2 := vb0_law) (by decide +kernel) (scOf (by decide +kernel)) (by decide) (jv d.toJC 3 (mm 3) rfl) (fun _ c0 => jg_name c0 13 rfl (.inl (c0.sC.loc 13 (mm 1) _ rfl))) (fun _ c0 => jts_one (jt_cmp opD_lt (je_call c0 (Tj_compare T) (by decide) (mm 0) (ja_cons (jv c0 13 (mm 2) rfl) (ja_cons (jv c0 5 (mm 0) rfl) (ja_nil)))) (je_int) rfl)) (fun _ c0 => jv c0 13 (mm 2) rfl) (by walk_at "mo" <;> first | with_reducible exact (Tj_compare (P := P) (w := w) (base := base) T).mo) (by walk_at "mo" <;> first | with_reducible exact (Tj_compare (P := P) (w := w) (base := base) T).mo)) (ja_nil)))) (jb_one (js_expr (je_insert (jv d.toJC 3 (mm 3) rfl) (ja_cons (jv d.toJC 7 (mm 7) rfl) (ja_cons (jv d.toJC 5 (mm 5) rfl) (ja_nil)))))))))) (jb_cons (js_frz 3 (js_set d.toJC 6 rfl (.inr ⟨d.toJC.sC.cel 6 (mm 1) _ rfl, d.fn⟩) (je_call d.toJC (Tj_l_number T) (by decide) (mm 5) (ja_cons (jv d.toJC 2 (mm 2) rfl) (ja_nil))))) (jb_cons (js_set d.toJC 8 rfl (.inr ⟨d.toJC.sC.cel 8 (mm 2) _ rfl, d.fn⟩) (je_tup (ja_cons (je_op opD_add (je_callB d.toJC cd_abs (mm 11) (T.free 12) (by decide +kernel) (ja_cons (je_ix (jv d.toJC 6 (mm 6) rfl) (je_int)) (ja_nil))) (je_int)) (ja_cons (je_ix (jv d.toJC 6 (mm 6) rfl) (je_int)) (ja_nil))))) (jb_cons (js_set d.toJC 8 rfl (.inr ⟨d.toJC.sC.cel 8 (mm 2) _ rfl, d.fn⟩) (je_call d.toJC (Tj_l_low T) (by decide) (mm 9) (ja_cons (je_ix (jv d.toJC 8 (mm 8) rfl) (je_int)) (ja_cons (je_ix (jv d.toJC 8 (mm 8) rfl) (je_int)) (ja_nil))))) (jb_cons (js_set d.toJC 9 rfl (.inl (d.toJC.sC.loc 9 (mm 6) _ rfl)) (je_lstR (ja_cons (jv d.toJC 3 (mm 3) rfl) (ja_cons (je_lc d.toJC (own := [(".0", 12), ("_law_one", 5)]) (vw2 := vb1_law) (by decide +kernel) (scOf (by decide +kernel)) (by decide) (ji_val (jv d.toJC 3 (mm 3) rfl)) (fun _ c1 => jg_name c1 5 rfl (.inl (c1.sC.loc 5 (mm 0) _ rfl))) (fun _ c1 => jts_nil) (fun _ c1 => je_call c1 (Tj_moved T) (by decide) (mm 0) (ja_cons (jv c1 5 (mm 0) rfl) (ja_cons (jv c1 6 (mm 1) rfl) (ja_nil)))) (by walk_at "mo" <;> first | with_reducible exact (Tj_compare (P := P) (w := w) (base := base) T).mo | with_reducible exact (Tj_moved (P := P) (w := w) (base := base) T).mo) (by walk_at "mo" <;> first | with_reducible exact (Tj_compare (P := P) (w := w) (base := base) T).mo | with_reducible exact (Tj_moved (P := P) (w := w) (base := base) T).mo)) (ja_cons (je_lc d.toJC (own := [(".0", 12), ("_law_one", 5)]) (vw2 := vb2_law) (by decide +kernel) (scOf (by decide +kernel)) (by decide) (ji_val (jv d.toJC 3 (mm 3) rfl)) (fun _ c2 => jg_name c2 5 rfl (.inl (c2.sC.loc 5 (mm 0) _ rfl))) (fun _ c2 => jts_nil) (fun _ c2 => je_call c2 (Tj_scaled T) (by decide) (mm 0) (ja_cons (jv c2 5 (mm 0) rfl) (ja_cons (jv c2 8 (mm 1) rfl) (ja_nil)))) (by walk_at "mo" <;> first | with_reducible exact (Tj_compare (P := P) (w := w) (base := base) T).mo | with_reducible exact (Tj_moved (P := P) (w := w) (base := base) T).mo | with_reducible exact (Tj_scaled (P := P) (w := w) (base := base) T).mo) (by walk_at "mo" <;> first | with_reducible exact (Tj_compare (P := P) (w := w) (base := base) T).mo | with_reducible exact (Tj_moved (P := P) (w := w) (base := base) T).mo | with_reducible exact (Tj_scaled (P := P) (w := w) (base := base) T).mo)) (ja_nil)))))) (jb_cons (js_expr (je_append (jv d.toJC 9 (mm 9) rfl) (ja_cons (je_rvs (je_lc d.toJC (own := [(".0", 12), ("_law_one", 5)]) (vw2 := vb3_law) (by decide +kernel) (scOf (by decide +kernel)) (by decide) (ji_val (jv d.toJC 3 (mm 3) rfl)) (fun _ c3 => jg_name c3 5 rfl (.inl (c3.sC.loc 5 (mm 0) _ rfl))) (fun _ c3 => jts_nil) (fun _ c3 => je_call c3 (Tj_scaled T) (by decide) (mm 0) (ja_cons (jv c3 5 (mm 0) rfl) (ja_cons (je_tup (ja_cons (je_op opD_sub (je_int) (je_ix (jv c3 8 (mm 1) rfl) (je_int))) (ja_cons (je_ix (jv c3 8 (mm 1) rfl) (je_int)) (ja_nil)))) (ja_nil)))) (by walk_at "mo" <;> first | with_reducible exact (Tj_compare (P := P) (w := w) (base := base) T).mo | with_reducible exact (Tj_moved (P := P) (w := w) (base := base) T).mo | with_reducible exact (Tj_scaled (P := P) (w := w) (base := base) T).mo) (by walk_at "mo" <;> first | with_reducible exact (Tj_compare (P := P) (w := w) (base := base) T).mo | with_reducible exact (Tj_moved (P := P) (w := w) (base := base) T).mo | with_reducible exact (Tj_scaled (P := P) (w := w) (base := base) T).mo)) (jo_some (je_neg (je_int)))) (ja_nil)))) (jb_cons (js_if (jt_not (jt_tru (je_callB d.toJC (cd_all d.toJC.calm) (mm 12) (T.free 15) (by decide +kernel) (ja_cons (je_lcG d.toJC (own := [(".0", 12), ("_law_row", 14)]) (vw2 := vb4_law) (by decide +kernel) (scOf (by decide +kernel)) (by decide) (jv d.toJC 9 (mm 9) rfl) (fun _ c4 => jg_name c4 14 rfl (.inl (c4.sC.loc 14 (mm 1) _ rfl))) (fun _ c4 => jts_nil) (fun _ c4 => je_call c4 (Tj_l_rows_right T) (by decide) (mm 0) (ja_cons (jv c4 14 (mm 1) rfl) (ja_nil))) (by walk_at "mo" <;> first | with_reducible exact (Tj_compare (P := P) (w := w) (base := base) T).mo | with_reducible exact (Tj_l_rows_right (P := P) (w := w) (base := base) T).mo | with_reducible exact (Tj_moved (P := P) (w := w) (base := base) T).mo | with_reducible exact (Tj_scaled (P := P) (w := w) (base := base) T).mo) (by walk_at "mo" <;> first | with_reducible exact (Tj_compare (P := P) (w := w) (base := base) T).mo | with_reducible exact (Tj_l_rows_right (P := P) (w := w) (base := base) T).mo | with_reducible exact (Tj_moved (P := P) (w := w) (base := base) T).mo | with_reducible exact (Tj_scaled (P := P) (w := w) (base := base) T).mo)) (ja_nil))))) (jb_one (js_ret (je_bl))) (jb_nil)) (jb_one (js_for d (ji_r1 d.toJC (mm 0) (T.free 0) (ja_cons (je_int) (ja_nil))) (jg_name d.toJC 10 rfl (.inl (d.toJC.sC.loc 10 (mm 7) _ rfl))) (jb_one (js_if (jt_cmp (opD_ne d.toJC.room) (je_ix (jv d.toJC 3 (mm 3) rfl) (jv d.toJC 10 (mm 10) rfl)) (je_ix (jv d.toJC 3 (mm 3) rfl) (je_op opD_add (jv d.toJC 10 (mm 10) rfl) (je_int))) rfl) (jb_cons (js_set d.toJC 11 rfl (.inr ⟨d.toJC.sC.cel 11 (mm 3) _ rfl, d.fn⟩) (je_tup (ja_cons (je_call d.toJC (Tj_between T) (by decide) (mm 13) (ja_cons (je_ix (jv d.toJC 3 (mm 3) rfl) (jv d.toJC 10 (mm 10) rfl)) (ja_cons (je_ix (jv d.toJC 3 (mm 3) rfl) (je_op opD_add (jv d.toJC 10 (mm 10) rfl) (je_int))) (ja_nil)))) (ja_cons (je_int) (ja_cons (je_tup (ja_cons (je_int) (ja_cons (je_int) (ja_nil)))) (ja_nil)))))) (jb_cons (js_if (jt_not (jt_tru (je_callB d.toJC (cd_all d.toJC.calm) (mm 12) (T.free 15) (by decide +kernel) (ja_cons (je_lc d.toJC (own := [(".0", 12), ("_law_one", 5)]) (vw2 := vb5_law) (by decide +kernel) (scOf (by decide +kernel)) (by decide) (ji_val (je_sl (jv d.toJC 3 (mm 3) rfl) (jo_none) (jo_some (je_op opD_add (jv d.toJC 10 (mm 10) rfl) (je_int))))) (fun _ c5 => jg_name c5 5 rfl (.inl (c5.sC.loc 5 (mm 0) _ rfl))) (fun _ c5 => jts_nil) (fun _ c5 => je_cmp (opD_eq c5.room) (je_call c5 (Tj_compare T) (by decide) (mm 0) (ja_cons (jv c5 5 (mm 0) rfl) (ja_cons (jv c5 11 (mm 1) rfl) (ja_nil)))) (je_neg (je_int)) rfl) (by walk_at "mo" <;> first | with_reducible exact (Tj_compare (P := P) (w := w) (base := base) T).mo | with_reducible exact (Tj_l_rows_right (P := P) (w := w) (base := base) T).mo | with_reducible exact (Tj_moved (P := P) (w := w) (base := base) T).mo | with_reducible exact (Tj_scaled (P := P) (w := w) (base := base) T).mo) (by walk_at "mo" <;> first | with_reducible exact (Tj_compare (P := P) (w := w) (base := base) T).mo | with_reducible exact (Tj_l_rows_right (P := P) (w := w) (base := base) T).mo | with_reducible exact (Tj_moved (P := P) (w := w) (base := base) T).mo | with_reducible exact (Tj_scaled (P := P) (w := w) (base := base) T).mo)) (ja_nil))))) (jb_one (js_ret (je_bl))) (jb_nil)) (jb_one (js_if (jt_not (jt_tru (je_callB d.toJC (cd_all d.toJC.calm) (mm 12) (T.free 15) (by decide +kernel) (ja_cons (je_lc d.toJC (own := [(".0", 12), ("_law_one", 5)]) (vw2 := vb6_law) (by decide +kernel) (scOf (by decide +kernel)) (by decide) (ji_val (je_sl (jv d.toJC 3 (mm 3) rfl) (jo_some (je_op opD_add (jv d.toJC 10 (mm 10) rfl) (je_int))) (jo_none))) (fun _ c6 => jg_name c6 5 rfl (.inl (c6.sC.loc 5 (mm 0) _ rfl))) (fun _ c6 => jts_nil) (fun _ c6 => je_cmp (opD_eq c6.room) (je_call c6 (Tj_compare T) (by decide) (mm 0) (ja_cons (jv c6 11 (mm 1) rfl) (ja_cons (jv c6 5 (mm 0) rfl) (ja_nil)))) (je_neg (je_int)) rfl) (by walk_at "mo" <;> first | with_reducible exact (Tj_compare (P := P) (w := w) (base := base) T).mo | with_reducible exact (Tj_l_rows_right (P := P) (w := w) (base := base) T).mo | with_reducible exact (Tj_moved (P := P) (w := w) (base := base) T).mo | with_reducible exact (Tj_scaled (P := P) (w := w) (base := base) T).mo) (by walk_at "mo" <;> first | with_reducible exact (Tj_compare (P := P) (w := w) (base := base) T).mo | with_reducible exact (Tj_l_rows_right (P := P) (w := w) (base := base) T).mo | with_reducible exact (Tj_moved (P := P) (w := w) (base := base) T).mo | with_reducible exact (Tj_scaled (P := P) (w := w) (base := base) T).mo)) (ja_nil))))) (jb_one (js_ret (je_bl))) (jb_nil))))) (jb_nil))))))))))))))) (jb_one (js_ret (je_bl)))
theorem ok_law (T : Tp fa fn bx K mg) {f : Addr} {fd : FuncData} (F : FunD K d_law.name d_law.qual d_law.params d_law.body d_law.scope (d_law.dvs K) (d_law.kws K) f fd) : FnOk P w K mg base (L2.CX P w) 9 f fd ["_law_script"] (LSp K 1 m_law) :=
  ok_mkN F fs_law sc_law fun X W d => body_law T d
theorem mo_law {P : Program} {w : World} {base : Heap} (T : Tp fa fn bx K mg) : MoF m_law := moFn (moS_of (k := 8) (P := P) (w := w) (base := base) fs_law sc_law ⟨rfl, by decide, by decide⟩ fun X W d => body_law T d)
end
end Lr.K06

namespace Lr.K06
open PySem PySem.Spec PyProof.Rows L2 Bl Lb Rl
local macro_rules | `(tactic| walk_at "bl0") => `(tactic| (with_reducible (first
  | (refine Go.gVr ?_; first | refine Go.vr0 ?_ | refine Go.vr1 ?_ | refine Go.vr2 ?_ | refine Go.vr3 ?_ | refine Go.vr4 ?_ | refine Go.vr5 ?_ | refine Go.vr6 ?_ | refine Go.vr7 ?_ | refine Go.vr8 ?_ | refine Go.vr9 ?_ | refine Go.vr10 ?_ | refine Go.vr11 ?_ | refine Go.vr12 ?_ | refine Go.vr13 ?_ | refine Go.vr14 ?_ | refine Go.vr15 ?_ | refine Go.vr16 ?_ | refine Go.vr17 ?_ | refine Go.vr18 ?_ | refine Go.vr19 ?_ | refine Go.vr20 ?_ | refine Go.vr21 ?_ | refine Go.vr22 ?_ | refine Go.vr23 ?_)
  | refine Go.seq ?_
  | refine Go.nx' ?_
  | refine Go.ret ?_
  | refine Go.if' ?_
  | refine Go.asg ?_
  | refine Go.par ?_
  | refine Go.drop ?_
  | refine Go.brk ?_
  | refine Go.cnt ?_
  | refine Go.raise ?_
  | refine Go.thru ?_
  | refine Go.tryAs ?_
  | refine Go.for' ?_
  | refine Go.sub ?_
  | refine Go.retN ?_
  | refine Go.par_cons ?_
  | refine Go.par_nil ?_
  | refine Go.cn' ?_
  | refine Go.two ?_
  | refine Go.nil ?_
  | refine Go.cons ?_
  | refine Go.tup ?_
  | refine Go.lst ?_
  | refine Go.lstR ?_
  | refine Go.tbl' ?_
  | refine Go.tblK' ?_
  | refine Go.ttr' ?_
  | refine Go.truB ?_
  | refine Go.truI ?_
  | refine Go.truN ?_
  | refine Go.and' ?_
  | refine Go.or' ?_
  | refine Go.not' ?_
  | refine Go.vOf' ?_
  | refine Go.vNot' ?_
  | refine Go.eIf' ?_
  | refine Go.ifT ?_
  | refine Go.ifF ?_
  | refine Go.ifN ?_
  | refine Go.add ?_
  | refine Go.sub' ?_
  | refine Go.lt ?_
  | refine Go.le ?_
  | refine Go.gt ?_
  | refine Go.ge ?_
  | refine Go.eqI ?_
  | refine Go.neI ?_
  | refine Go.is' ?_
  | refine Go.isNot' ?_
  | refine Go.chain ?_
  | refine Go.dB' ?_
  | refine Go.neg ?_
  | refine Go.neg' ?_
  | refine Go.abs' ?_
  | refine Go.lenT ?_
  | refine Go.lenL ?_
  | refine Go.max' ?_
  | refine Go.min' ?_
  | refine Go.intI ?_
  | refine Go.intB ?_
  | refine Go.tupL ?_
  | refine Go.tupT ?_
  | refine Go.isi ?_
  | refine Go.call ?_
  | refine Go.iVal' ?_
  | refine Go.iValT ?_
  | refine Go.iValL ?_
  | refine Go.r1 ?_
  | refine Go.r2 ?_
  | refine Go.star ?_
  | refine Go.l_cons ?_
  | refine Go.l_nil ?_
  | refine Go.enum' ?_
  | refine Go.rev' ?_
  | refine Go.zip' ?_
  | refine Go.wipe_nil ?_
  | refine Go.wipe_cons ?_
  | refine Go.iadd ?_
  | refine Go.sl ?_
  | refine Go.oN ?_
  | refine Go.oS ?_
  | refine Go.osK' ?_
  | refine Go.getL ?_
  | refine Go.lc ?_
  | refine Go.lcR ?_
  | refine Go.lg_nil ?_
  | refine Go.lg_cons ?_
  | refine Go.yes ?_
  | refine Go.for_nil ?_
  | refine Go.for_cons ?_
  | refine Go.revT ?_
  | refine Go.revL ?_
  | refine Go.zipT ?_
  | refine Go.zipL ?_
  | refine Go.tupK' rfl ?_
  | refine Go.lstK' rfl ?_
  | refine Go.callK' rfl rfl ?_
  | refine Go.lcL rfl ?_
  | refine Go.getLL' rfl ?_
  | refine Go.addT rfl ?_
  | (refine Go.gAsg ?_; first | refine Go.set0 ?_ | refine Go.set1 ?_ | refine Go.set2 ?_ | refine Go.set3 ?_ | refine Go.set4 ?_ | refine Go.set5 ?_ | refine Go.set6 ?_ | refine Go.set7 ?_ | refine Go.set8 ?_ | refine Go.set9 ?_ | refine Go.set10 ?_ | refine Go.set11 ?_ | refine Go.set12 ?_ | refine Go.set13 ?_ | refine Go.set14 ?_ | refine Go.set15 ?_ | refine Go.set16 ?_ | refine Go.set17 ?_ | refine Go.set18 ?_ | refine Go.set19 ?_ | refine Go.set20 ?_ | refine Go.set21 ?_ | refine Go.set22 ?_ | refine Go.set23 ?_ | refine Go.tp_cons ?_ | refine Go.tp_nil ?_)
  | (refine Go.gIxT ?_; first | refine Go.ixT0 ?_ | refine Go.ixT1 ?_ | refine Go.ixT2 ?_ | refine Go.ixT3 ?_ | refine Go.ixT4 ?_ | refine Go.ixT5 ?_ | refine Go.ixT6 ?_ | refine Go.ixT7 ?_)
  | (refine Go.gIxL ?_; first | refine Go.ixL0 ?_ | refine Go.ixL1 ?_ | refine Go.ixL2 ?_ | refine Go.ixL3 ?_ | refine Go.ixL4 ?_ | refine Go.ixL5 ?_ | refine Go.ixL6 ?_ | refine Go.ixL7 ?_)
  | (refine Go.gAug ?_; first | refine Go.aug0 ?_ | refine Go.aug1 ?_ | refine Go.aug2 ?_ | refine Go.aug3 ?_ | refine Go.aug4 ?_ | refine Go.aug5 ?_ | refine Go.aug6 ?_ | refine Go.aug7 ?_ | refine Go.aug8 ?_ | refine Go.aug9 ?_ | refine Go.aug10 ?_ | refine Go.aug11 ?_ | refine Go.aug12 ?_ | refine Go.aug13 ?_ | refine Go.aug14 ?_ | refine Go.aug15 ?_ | refine Go.aug16 ?_ | refine Go.aug17 ?_ | refine Go.aug18 ?_ | refine Go.aug19 ?_ | refine Go.aug20 ?_ | refine Go.aug21 ?_ | refine Go.aug22 ?_ | refine Go.aug23 ?_)
  | (refine Go.gStar ?_; first | refine Go.startup0 ?_ | refine Go.starlst0 ?_ | refine Go.startup1 ?_ | refine Go.starlst1 ?_ | refine Go.startup2 ?_ | refine Go.starlst2 ?_ | refine Go.startup3 ?_ | refine Go.starlst3 ?_ | refine Go.startup4 ?_ | refine Go.starlst4 ?_ | refine Go.startup_2 ?_ | refine Go.starlst_2 ?_ | refine Go.startup_3 ?_ | refine Go.starlst_3 ?_ | refine Go.startup_4 ?_ | refine Go.starlst_4 ?_)
  | refine Go.slfT1 ?_ | refine Go.sltT1 ?_ | refine Go.slfL1 ?_ | refine Go.sltL1 ?_ | refine Go.slfT2 ?_ | refine Go.sltT2 ?_ | refine Go.slfL2 ?_ | refine Go.sltL2 ?_ | refine Go.slfT3 ?_ | refine Go.sltT3 ?_ | refine Go.slfL3 ?_ | refine Go.sltL3 ?_ | refine Go.slfT4 ?_ | refine Go.sltT4 ?_ | refine Go.slfL4 ?_ | refine Go.sltL4 ?_
  | (refine Go.gUns ?_; first | refine Go.uns0 ?_ | refine Go.uns1 ?_ | refine Go.uns2 ?_ | refine Go.uns3 ?_ | refine Go.uns4 ?_ | refine Go.uns5 ?_ | refine Go.uns6 ?_ | refine Go.uns7 ?_ | refine Go.uns8 ?_ | refine Go.uns9 ?_ | refine Go.uns10 ?_ | refine Go.uns11 ?_ | refine Go.uns12 ?_ | refine Go.uns13 ?_ | refine Go.uns14 ?_ | refine Go.uns15 ?_ | refine Go.uns16 ?_ | refine Go.uns17 ?_ | refine Go.uns18 ?_ | refine Go.uns19 ?_ | refine Go.uns20 ?_ | refine Go.uns21 ?_ | refine Go.uns22 ?_ | refine Go.uns23 ?_)
  | refine Go.entup0 ?_ | refine Go.enlst0 ?_ | refine Go.entup1 ?_ | refine Go.enlst1 ?_ | refine Go.entup2 ?_ | refine Go.enlst2 ?_ | refine Go.entup3 ?_ | refine Go.enlst3 ?_ | refine Go.entup4 ?_ | refine Go.enlst4 ?_ | refine Go.entup5 ?_ | refine Go.enlst5 ?_ | refine Go.entup6 ?_ | refine Go.enlst6 ?_)))
local macro_rules | `(tactic| walk_at "bl1") => `(tactic| first | ((with_reducible refine Go.gEqS ?_); (first | refine Go.eqS (b := true) ⟨rfl, by decide +kernel⟩ ⟨rfl, by decide +kernel⟩ rfl ?_ | refine Go.eqS (b := false) ⟨rfl, by decide +kernel⟩ ⟨rfl, by decide +kernel⟩ rfl ?_)) | ((with_reducible refine Go.gNeS ?_); (first | refine Go.neS (b := true) ⟨rfl, by decide +kernel⟩ ⟨rfl, by decide +kernel⟩ rfl ?_ | refine Go.neS (b := false) ⟨rfl, by decide +kernel⟩ ⟨rfl, by decide +kernel⟩ rfl ?_)) | walk_at "bl0" | ((with_reducible refine Go.gAll ?_); (refine Go.allB (by rfl) ?_)) | ((with_reducible refine Go.gIxT ?_); (refine Go.ixT (by rfl) ?_)) | ((with_reducible refine Go.gIxL ?_); (refine Go.ixL (by rfl) ?_)))
local macro_rules | `(tactic| walk_at "bl") => `(tactic| (repeat walk_at "bl1"))
local macro_rules | `(tactic| walk_at "bl0") => `(tactic| (with_reducible (first | refine Go.zipS' ?_ | refine Go.zipR' ?_ | refine Go.seqT ?_ | refine Go.seqL ?_ | refine Go.zipST rfl ?_ | refine Go.zipSL rfl ?_ | refine Go.for_zc ?_ | refine Go.for_zn ?_ | refine Go.lg_zc ?_ | refine Go.lg_zn ?_)))
/-! ### rows of roots, plain -/
theorem val_inj {x y : Rt} (hx : Ok x) (hy : Ok y) (cx : Cn x) (cy : Cn y) (h : val x = val y) : x = y := by
  have su : Real.of (x.s : Rat) * rtq x.q * (Real.of (x.s : Rat) * rtq x.q) = Real.of x.q := by rw [← s_sq hx]; grind
  have sv : Real.of (y.s : Rat) * rtq y.q * (Real.of (y.s : Rat) * rtq y.q) = Real.of y.q := by rw [← s_sq hy]; grind
  have e := nrm4_eq (d := x.b - y.b) su sv
  have z : Real.of (x.b - y.b) + Real.of (x.s : Rat) * rtq x.q - Real.of (y.s : Rat) * rtq y.q = 0 := by
    unfold val at h
    rw [Real.of_sub]
    grind
  rw [z] at e
  have n0 : nrm4 (x.b - y.b) x.q y.q = 0 := by
    rw [← Real.of_inj, ← e, Real.of_zero]
    grind
  rcases nrm4_zero hx hy cx cy n0 with e | ⟨e1, e2, e3, e4⟩
  · exact e
  · have rp := rtq_pos (hx.p e3)
    have : Real.of ((-y.s : Int) : Rat) = - Real.of (y.s : Rat) := ofI_neg _
    rw [← e4] at this
    unfold val at h
    have hb : Real.of x.b = Real.of y.b := by rw [e1]
    have hq : rtq x.q = rtq y.q := by rw [e2]
    rw [hq] at rp
    have w : Real.of (x.s : Rat) * rtq y.q = 0 := by
      rw [hb, hq] at h
      have w2 : Real.of (x.s : Rat) * rtq y.q + Real.of (x.s : Rat) * rtq y.q = 0 := by
        have e5 : Real.of (x.s : Rat) * rtq y.q = - (Real.of (y.s : Rat) * rtq y.q) := by rw [this]; grind
        clear e su sv z n0
        generalize Real.of (x.s : Rat) * rtq y.q = u at *
        generalize Real.of (y.s : Rat) * rtq y.q = v at *
        grind
      generalize Real.of (x.s : Rat) * rtq y.q = u at w2 ⊢
      rcases Real.tri' u 0 with z | z | z
      · grind
      · exact z
      · grind
    rcases hx.s with s | s | s
    · rw [s, of_intm1] at w; grind
    · exact absurd s e3
    · rw [s, of_int1] at w; grind
/-- it does not fall -/
def Up (xs : List Rt) : Prop := xs.Pairwise fun a b => val a ≤ val b
noncomputable def ins (xs : List Rt) (y : Rt) : List Rt := xs.take (xs.filter fun x => decide (sg (val x - val y) < 0)).length ++ [y] ++ xs.drop (xs.filter fun x => decide (sg (val x - val y) < 0)).length
theorem ins_mem {xs : List Rt} {y z : Rt} : z ∈ ins xs y ↔ z = y ∨ z ∈ xs := by
  unfold ins
  generalize (xs.filter fun x => decide (sg (val x - val y) < 0)).length = k
  have e : z ∈ xs ↔ z ∈ xs.take k ∨ z ∈ xs.drop k := by rw [← List.mem_append, List.take_append_drop]
  simp only [List.mem_append, List.mem_singleton]
  rw [e]
  constructor
  · rintro ((h | h) | h)
    · exact .inr (.inl h)
    · exact .inl h
    · exact .inr (.inr h)
  · rintro (h | h | h)
    · exact .inl (.inr h)
    · exact .inl (.inl h)
    · exact .inr h
theorem ins_len {xs : List Rt} {y : Rt} : (ins xs y).length = xs.length + 1 := by
  unfold ins
  have := List.length_filter_le (fun x => decide (sg (val x - val y) < 0)) xs
  simp only [List.length_append, List.length_take, List.length_drop, List.length_singleton]
  omega
theorem ins_up : ∀ {xs : List Rt} {y : Rt}, Up xs → Up (ins xs y)
  | [], y, h => by
    unfold ins Up
    simp
  | x :: xs, y, h => by
    have h' : (∀ z ∈ xs, val x ≤ val z) ∧ Up xs := List.pairwise_cons.mp h
    by_cases c : sg (val x - val y) < 0
    · have lt := sg_lt.mp c
      have e : ins (x :: xs) y = x :: ins xs y := by
        unfold ins
        rw [List.filter_cons_of_pos (by simpa using c), List.length_cons, List.take_succ_cons, List.drop_succ_cons]
        rfl
      rw [e]
      refine List.pairwise_cons.mpr ⟨fun z hz => ?_, ins_up h'.2⟩
      rcases ins_mem.mp hz with w | w
      · rw [w]; grind
      · exact h'.1 z w
    · have ge : val y ≤ val x := by
        rcases Real.tri' (val x) (val y) with z | z | z
        · exact absurd (sg_lt.mpr z) c
        · grind
        · grind
      have e0 : (x :: xs).filter (fun x => decide (sg (val x - val y) < 0)) = [] := by
        refine List.filter_eq_nil_iff.mpr fun z hz => ?_
        rw [decide_eq_true_eq, sg_lt]
        rcases List.mem_cons.mp hz with w | w
        · rw [w]; grind
        · have := h'.1 z w; grind
      have e : ins (x :: xs) y = y :: x :: xs := by
        unfold ins
        rw [e0]
        rfl
      rw [e]
      refine List.pairwise_cons.mpr ⟨fun z hz => ?_, h⟩
      rcases List.mem_cons.mp hz with w | w
      · rw [w]; exact ge
      · have := h'.1 z w; grind
theorem up_map {f : Rt → Rt} {xs : List Rt} (h : Up xs) (hf : ∀ a ∈ xs, ∀ b ∈ xs, val a ≤ val b → val (f a) ≤ val (f b)) : Up (xs.map f) := by
  induction xs with
  | nil => exact .nil
  | cons x xs ih =>
    have h' : (∀ z ∈ xs, val x ≤ val z) ∧ Up xs := List.pairwise_cons.mp h
    refine List.pairwise_cons.mpr ⟨fun z hz => ?_, ih h'.2 fun a ha b hb l => hf a (List.mem_cons_of_mem _ ha) b (List.mem_cons_of_mem _ hb) l⟩
    obtain ⟨b, hb, rfl⟩ := List.mem_map.mp hz
    exact hf x (List.mem_cons_self ..) b (List.mem_cons_of_mem _ hb) (h'.1 b hb)
theorem up_rev {f : Rt → Rt} {xs : List Rt} (h : Up xs) (hf : ∀ a ∈ xs, ∀ b ∈ xs, val a ≤ val b → val (f b) ≤ val (f a)) : Up (xs.map f).reverse := by
  unfold Up
  rw [List.pairwise_reverse]
  induction xs with
  | nil => exact .nil
  | cons x xs ih =>
    have h' : (∀ z ∈ xs, val x ≤ val z) ∧ Up xs := List.pairwise_cons.mp h
    refine List.pairwise_cons.mpr ⟨fun z hz => ?_, ih h'.2 fun a ha b hb l => hf a (List.mem_cons_of_mem _ ha) b (List.mem_cons_of_mem _ hb) l⟩
    obtain ⟨b, hb, rfl⟩ := List.mem_map.mp hz
    exact hf x (List.mem_cons_self ..) b (List.mem_cons_of_mem _ hb) (h'.1 b hb)
theorem up_get {xs : List Rt} (h : Up xs) {i j : Nat} {x y : Rt} (hi : xs[i]? = some x) (hj : xs[j]? = some y) (hij : i ≤ j) : val x ≤ val y := by
  obtain ⟨i1, i2⟩ := List.getElem?_eq_some_iff.mp hi
  obtain ⟨j1, j2⟩ := List.getElem?_eq_some_iff.mp hj
  by_cases e : i = j
  · subst e
    rw [i2] at j2
    rw [j2]
    grind
  · have := List.pairwise_iff_getElem.mp h i j i1 j1 (by omega)
    rw [i2, j2] at this
    exact this
/-! ### comprehensions over rows -/
theorem lc_map {α : Type} {f h : α → D} {i : Nat} {te : TEd} {env : Ev} {S : Sto} : ∀ (xs : List α) {Q : List D → Sto → Prop}, (∀ x ∈ xs, ∀ Q' : DK, Q' (h x) S → te (env.set i (some (f x))) S Q' EF) → Q (xs.map h) S → lcGo (.nm i) tYesD te env (xs.map f) S Q
  | [], Q, _, k => k
  | x :: xs, Q, t, k => by
    rw [List.map_cons]
    unfold lcGo
    refine t x (List.mem_cons_self ..) _ ?_
    exact lc_map xs (fun y hy Q' q => t y (List.mem_cons_of_mem _ hy) Q' q) k
theorem lcG_filter {α : Type} {f : α → D} {p : α → Bool} {i : Nat} {tt : TTd} {te : TEd} {env : Ev} {S : Sto} {a : Addr} {d0 : List D} (h0 : S a = some d0) : ∀ (xs : List α) {Q : List D → Sto → Prop}, (∀ x ∈ xs, ∀ Q' : Bool → Sto → Prop, Q' (p x) S → tt (env.set i (some (f x))) S Q' EF) →
    (∀ x ∈ xs, ∀ Q' : DK, Q' (f x) S → te (env.set i (some (f x))) S Q' EF) → Q ((xs.filter p).map f) S → lcGoG a d0 (.nm i) tt te env (xs.map f) S Q
  | [], Q, _, _, k => ⟨h0, k⟩
  | x :: xs, Q, t, u, k => by
    rw [List.map_cons]
    unfold lcGoG
    refine ⟨h0, ?_⟩
    refine t x (List.mem_cons_self ..) _ ?_
    cases c : p x with
    | true =>
      rw [List.filter_cons_of_pos c] at k
      rw [if_pos rfl]
      refine u x (List.mem_cons_self ..) _ ?_
      exact lcG_filter h0 xs (fun y hy => t y (List.mem_cons_of_mem _ hy)) (fun y hy => u y (List.mem_cons_of_mem _ hy)) k
    | false =>
      rw [List.filter_cons_of_neg (by rw [c]; simp)] at k
      rw [if_neg (by simp)]
      exact lcG_filter h0 xs (fun y hy => t y (List.mem_cons_of_mem _ hy)) (fun y hy => u y (List.mem_cons_of_mem _ hy)) k
theorem lcG_map {α : Type} {f h : α → D} {i : Nat} {te : TEd} {env : Ev} {S : Sto} {a : Addr} {d0 : List D} (h0 : S a = some d0) : ∀ (xs : List α) {Q : List D → Sto → Prop}, (∀ x ∈ xs, ∀ Q' : DK, Q' (h x) S → te (env.set i (some (f x))) S Q' EF) → Q (xs.map h) S → lcGoG a d0 (.nm i) tYesD te env (xs.map f) S Q
  | [], Q, _, k => ⟨h0, k⟩
  | x :: xs, Q, t, k => by
    rw [List.map_cons]
    unfold lcGoG
    refine ⟨h0, ?_⟩
    refine t x (List.mem_cons_self ..) _ ?_
    exact lcG_map h0 xs (fun y hy Q' q => t y (List.mem_cons_of_mem _ hy) Q' q) k
/-! ### a row is right -/
structure Rk (x : Rt) : Prop where
  ok : Ok x
  cn : Cn x
  b : sr 165 x.b
  q : sr 130 x.q
theorem cmp_rk {x y : Rt} {S : Sto} {Q : DK} {E : EK} (hx : Rk x) (hy : Rk y) (k : Q (.int (sg (val x - val y))) S) : m_compare [rt x, rt y] S Q E :=
  compare_spec hx.ok hy.ok hx.b hx.q hy.b hy.q (by decide) k
theorem flo_rk {x : Rt} {S : Sto} {Q : DK} {E : EK} (hx : Rk x) (k : ∀ f : Int, Real.of (f : Rat) ≤ val x → val x < Real.of (f : Rat) + 1 → Q (.int f) S) : m_floor_of [rt x] S Q E :=
  floor_of_spec hx.ok hx.b hx.q (by decide) (by decide) k
theorem enum_go {α : Type} {f : α → D} {tg : Tg} {b : TSd} {N : Nd} (P : List α → Nat → Ev → Sto → Prop) (turn : ∀ x xs i env S, P (x :: xs) i env S → ∃ e1, asgT S tg (.tup [.int (i : Int), f x]) env = some e1 ∧ ∀ N' : Nd, (∀ e s, P xs (i + 1) e s → N'.nx e s) → (∀ e s, P xs (i + 1) e s → N'.ct e s) → N'.rt = N.rt → N'.bk = N.nx → N'.ex = N.ex → b e1 S N') (fin : ∀ i env S, P [] i env S → N.nx env S) :
    ∀ (xs : List α) (i : Nat) {env : Ev} {S : Sto}, P xs i env S → forD tg b (((List.range' i xs.length).zipWith (fun (i : Nat) d => D.tup [.int i, d]) (xs.map f))) env S N
  | [], i, env, S, h => fin i env S h
  | x :: xs, i, env, S, h => by
    obtain ⟨e1, ea, hb⟩ := turn x xs i env S h
    rw [List.map_cons, List.length_cons, List.range'_succ, List.zipWith_cons_cons]
    unfold forD
    rw [ea]
    exact hb _ (fun e s q => enum_go P turn fin xs (i + 1) q) (fun e s q => enum_go P turn fin xs (i + 1) q) rfl rfl rfl
theorem cut_from {xs : List D} {i : Nat} (h : i ≤ xs.length) : Bl.cutD xs (some (i : Int)) none = xs.drop i := by
  unfold Bl.cutD
  rw [HT.sIx_nat, HT.sIx_none, Nat.min_eq_left h]
  exact List.take_of_length_le (by rw [List.length_drop]; omega)
theorem cut_to {xs : List D} {i : Nat} (h : i ≤ xs.length) : Bl.cutD xs none (some (i : Int)) = xs.take i := by
  unfold Bl.cutD
  rw [HT.sIx_nat, HT.sIx_none, Nat.min_eq_left h, List.drop_zero, Nat.sub_zero]
theorem rows_spec {xs : List Rt} {S : Sto} {Q : DK} {E : EK} (hl : xs.length ≤ 900) (hk : ∀ x ∈ xs, Rk x) (hu : Up xs) (k : Q (.bl true) S) : m_l_rows_right [.lst (xs.map rt)] S Q E := by
  refine e_l_rows_right ?_
  unfold t_l_rows_right
  walk_at "bl"
  unfold Go.enumK seqD enumD
  dsimp only
  rw [List.length_map, List.range_eq_range']
  refine enum_go (fun zs i e s => ∃ o1 o2 o3 o4, e = [some (.lst (xs.map rt)), o1, o2, o3, o4] ∧ s = S ∧ zs = xs.drop i) ?_ ?_ xs 0 ⟨_, _, _, _, rfl, rfl, rfl⟩
  · rintro x zs i e s ⟨o1, o2, o3, o4, rfl, rfl, ez⟩
    refine ⟨_, rfl, fun N' hnx _ _ _ _ => ?_⟩
    show sFor _ _ _ [some (.lst (xs.map rt)), some (.int (i : Int)), some (rt x), o3, o4] _ _
    have hi : i < xs.length := by
      rcases Nat.lt_or_ge i xs.length with z | z
      · exact z
      · rw [List.drop_eq_nil_of_le z] at ez; cases ez
    have ex : xs[i]? = some x := by
      rw [List.drop_eq_getElem_cons hi] at ez
      rw [List.getElem?_eq_getElem hi]
      exact congrArg some (List.cons.inj ez).1.symm
    have ezs : zs = xs.drop (i + 1) := by
      rw [List.drop_eq_getElem_cons hi] at ez
      exact (List.cons.inj ez).2
    have hx := hk x (List.mem_of_getElem? ex)
    walk_at "bl"
    refine Go.slL (cut_from (by rw [List.length_map]; omega)) ?_
    rw [← List.map_drop, ← ez]
    walk_at "bl"
    refine forD_map (f := rt) (fun ys e s' => ∃ o3 o4, e = [some (.lst (xs.map rt)), some (.int (i : Int)), some (rt x), o3, o4] ∧ s' = s ∧ ∀ y ∈ ys, Rk y ∧ val x ≤ val y) ?_ ?_ (x :: zs) ⟨_, _, rfl, rfl, fun y hy => ?_⟩
    · rintro y ys e s' ⟨o3, o4, rfl, rfl, hy⟩
      refine ⟨_, rfl, fun N2 hnx2 _ _ _ _ => ?_⟩
      show sSeq _ _ [some (.lst (xs.map rt)), some (.int (i : Int)), some (rt x), some (rt y), o4] _ _
      obtain ⟨ky, le⟩ := hy y (List.mem_cons_self ..)
      walk_at "bl"
      refine cmp_rk hx ky ?_
      walk_at "bl"
      have ne1 : sg (val x - val y) ≠ 1 := by
        rcases sg_cases (val x - val y) with ⟨a, b⟩ | ⟨a, b⟩ | ⟨a, b⟩
        · grind
        · omega
        · omega
      refine Go.ifDF ne1 ?_
      walk_at "bl"
      refine cmp_rk ky hx ?_
      walk_at "bl"
      have opp : sg (val y - val x) = 0 - sg (val x - val y) := by
        rw [← show -(val x - val y) = val y - val x by grind, sg_flip]
        omega
      refine Go.ifDT opp ?_
      walk_at "bl"
      refine ⟨ok_rt _, ok_rt _, ?_⟩
      rw [rt_eqd]
      have iff : decide (sg (val x - val y) = 0) = decide (x = y) := by
        rw [Bool.eq_iff_iff, decide_eq_true_eq, decide_eq_true_eq]
        constructor
        · intro h
          rcases sg_cases (val x - val y) with ⟨a, b⟩ | ⟨a, b⟩ | ⟨a, b⟩
          · omega
          · exact val_inj hx.ok ky.ok hx.cn ky.cn (by grind)
          · omega
        · rintro rfl
          exact sg_zero (by grind)
      rw [iff]
      refine Go.ne' ⟨rfl, rfl⟩ ⟨rfl, rfl⟩ ?_
      rw [show eqD (.bl (decide (x = y))) (.bl (decide (x = y))) = true by show (decide (x = y) == decide (x = y)) = true; exact beq_self_eq_true _]
      walk_at "bl"
      refine flo_rk hx fun f f1 f2 => ?_
      walk_at "bl"
      refine flo_rk ky fun g g1 g2 => ?_
      walk_at "bl"
      have fg : f < g + 1 := by
        rw [← ofI_lt, ofI_add, of_int1]
        grind
      refine Go.ifDF (by omega) ?_
      walk_at "bl"
      exact hnx2 _ _ ⟨_, _, rfl, rfl, fun z hz => hy z (List.mem_cons_of_mem _ hz)⟩
    · rintro e s' ⟨o3, o4, rfl, rfl, _⟩
      exact hnx _ _ ⟨_, _, _, _, rfl, rfl, ezs⟩
    · rw [ez] at hy
      obtain ⟨j, hj⟩ := List.mem_iff_getElem?.mp hy
      rw [List.getElem?_drop] at hj
      exact ⟨hk y (List.mem_of_getElem? hj), up_get hu ex hj (by omega)⟩
  · rintro i e s ⟨o1, o2, o3, o4, rfl, rfl, _⟩
    walk_at "bl"
    exact k
theorem bls_rep : ∀ n : Nat, blsOf (List.replicate n (.bl true)) = some (List.replicate n true)
  | 0 => rfl
  | n + 1 => by
    rw [List.replicate_succ, List.replicate_succ]
    unfold blsOf
    rw [bls_rep n]
    rfl
theorem all_map {α : Type} {xs : List α} {S : Sto} {Q : DK} (k : Q (.bl true) S) : bAll [.lst (xs.map fun _ => D.bl true)] S Q := by
  refine Go.allB (bs := List.replicate xs.length true) ?_ ?_
  · rw [List.map_const']
    exact bls_rep _
  · rw [show (List.replicate xs.length true).all id = true by simp]
    exact k
theorem lcG' {i : Nat} {g : Tg} {tt : TTd} {te : TEd} {vs : List Nat} {env : Ev} {S : Sto} {Q : DK} {E : EK} {r : Addr} {ds : List D} (h : env[i]? = some (some (.ref r))) (hS : S r = some ds) (hl : ds.length < 1000) (k : lcGoG r ds g tt te (wipeD env vs) ds S (fun ys S2 => Q (.lst ys) S2)) : dLcG (vr i) g tt te vs env S Q E := by
  unfold dLcG
  refine vr_go h ?_
  dsimp only
  rw [hS]
  exact ⟨Nat.lt_trans hl (by decide), k⟩
theorem insG {ta : TAd} {env : Ev} {S : Sto} {Q : DK} {E : EK} {r : Addr} {i : Nat} {xs : List D} (e : env[i]? = some (some (.ref r))) (h : S r = some xs) (k : ta env S (fun ds S2 => gIns r ds S2 Q) E) : dLm gIns (vr i) ta env S Q E := by
  unfold dLm
  refine vr_go e ?_
  exact ⟨by rw [h]; rfl, k⟩
theorem insK {r : Addr} {d : D} {xs : List D} {i : Nat} {S : Sto} {Q : DK} (h : S r = some xs) (hl : xs.length < 1000) (hi : i < 1000) (k : Q .non (sup S r (xs.take i ++ [d] ++ xs.drop i))) : gIns r [.int (i : Int), d] S Q := by
  unfold gIns
  dsimp only
  rw [h]
  exact ⟨Nat.lt_trans hl (by decide), by omega, by omega, k⟩
/-- a drawn root, as the row keeps it -/
structure Dr (j : Nat) (x : Rt) : Prop where
  g : Gd x
  m : Mg ((j : Int) * 2 ^ 42) x.b
theorem gd_rk {x : Rt} (h : Gd x) : Rk x := ⟨h.ok, h.cn, h.b.mono (by decide), h.q.mono (by decide)⟩
/-- a fraction between, compared -/
theorem cmp_mid1 {x : Rt} {r : Rat} {S : Sto} {Q : DK} {E : EK} (hx : Gd x) (hr : sr 1725 r) (h : val x < Real.of r) (k : Q (.int (-1)) S) : m_compare [rt x, rt ⟨r, 0, 0⟩] S Q E := by
  refine compare_core (x := x) (y := ⟨r, 0, 0⟩) (n := 1846) (m := 42) (fun q => moved_spec (n := 1725) (hx.b.mono (by decide)) hr.neg (by decide) q) hx.ok (ok_fr0 r) (hx.b.add hr.neg) hx.q (sr.zero.mono (show 1 ≤ 42 by decide)) (by decide) ?_
  rw [val_fr, sg_neg (by grind)]
  exact k
theorem cmp_mid2 {x : Rt} {r : Rat} {S : Sto} {Q : DK} {E : EK} (hx : Gd x) (hr : sr 1725 r) (h : Real.of r < val x) (k : Q (.int (-1)) S) : m_compare [rt ⟨r, 0, 0⟩, rt x] S Q E := by
  refine compare_core (x := ⟨r, 0, 0⟩) (y := x) (n := 1846) (m := 42) (fun q => moved_spec (x := ⟨r, 0, 0⟩) (n := 1725) hr (hx.b.neg.mono (by decide)) (by decide) q) (ok_fr0 r) hx.ok ((hr.add hx.b.neg).mono (by decide)) (sr.zero.mono (show 1 ≤ 42 by decide)) hx.q (by decide) ?_
  rw [val_fr, sg_neg (by grind)]
  exact k
theorem law_pure : ∀ ns : List Int, ns.length ≤ 63 → m_law [.lst (ns.map D.int)] (fun _ => none) (fun d _ => d = .bl true) fun _ _ => False := by
  intro ns hl
  refine e_law ?_
  unfold t_law
  walk_at "bl"
  refine Go.r1' (n := 1 + min 3 ns.length) (by rw [List.length_map]; split <;> omega) (by omega) ?_
  refine forD_rng (fun j e s => ∃ o1 o2 o3 o4 o5 o6 o7 o8 o9 o10 o11 o12 o13 o14, e = [some (.lst (ns.map D.int)), o1, o2, o3, o4, o5, o6, o7, o8, o9, o10, o11, o12, o13, o14]) ⟨_, _, _, _, _, _, _, _, _, _, _, _, _, _, rfl⟩ ?_ ?_
  · rintro j e s hj ⟨o1, o2, o3, o4, o5, o6, o7, o8, o9, o10, o11, o12, o13, o14, rfl⟩
    refine ⟨_, rfl, fun N' hnx _ hrt _ _ => ?_⟩
    show sSeq _ _ [some (.lst (ns.map D.int)), some (.int (0 + j)), o2, o3, o4, o5, o6, o7, o8, o9, o10, o11, o12, o13, o14] _ _
    walk_at "bl"
    refine bag_spec (by omega) (by omega) fun a S1 na b1 f1 => ?_
    walk_at "bl"
    refine Go.lstRK' rfl fun c hc => ?_
    have nac : a ≠ c := fun e => by obtain ⟨u, v, h, _⟩ := b1; rw [e, hc] at h; cases h
    walk_at "bl"
    refine Go.r1' (n := 7) rfl (by decide) ?_
    have bsup : ∀ {s : Sto} {ds : List D}, Bg s a → Bg (sup s c ds) a := fun {s ds} h => by
      obtain ⟨u, v, e, r⟩ := h
      exact ⟨u, v, by rw [sup_ne nac]; exact e, r⟩
    refine forD_rng (fun i e s => ∃ (xs : List Rt) (o4 o5 o6 o7 o12 o13 : Option D), e = [some (.lst (ns.map D.int)), some (.int (0 + j)), some (.ref a), some (.ref c), o4, o5, o6, o7, o8, o9, o10, o11, o12, o13, o14] ∧ s c = some (xs.map rt) ∧ Bg s a ∧ xs.length = i ∧ Up xs ∧ ∀ x ∈ xs, Dr i x) ⟨[], _, _, _, _, _, _, rfl, sup_same, bsup b1, rfl, .nil, fun x hx => by cases hx⟩ ?_ ?_
    · rintro i e s hi ⟨xs, o4, o5, o6, o7, o12, o13, rfl, hsc, hbs, hlx, hup, hx⟩
      refine ⟨_, rfl, fun N2 hnx2 _ _ _ _ => ?_⟩
      show sSeq _ _ [some (.lst (ns.map D.int)), some (.int (0 + j)), some (.ref a), some (.ref c), some (.int (0 + i)), o5, o6, o7, o8, o9, o10, o11, o12, o13, o14] _ _
      have h42 : (0 : Int) ≤ 2 ^ 42 := by decide
      have hB : ((i + 1 : Nat) : Int) * 2 ^ 42 = (i : Int) * 2 ^ 42 + 2 ^ 42 := by rw [Int.natCast_add, Int.add_mul]; rfl
      have i0 : (0 : Int) ≤ (i : Int) * 2 ^ 42 := Int.mul_nonneg (by omega) h42
      walk_at "bl"
      refine number_spec hbs fun r S2 hr b2 f2 => ?_
      walk_at "bl"
      refine take_spec b2 (by decide) (sm_k (by decide)) fun d S3 d0 d1 b3 f3 => ?_
      walk_at "bl"
      refine square_spec2 b3 fun q S4 hq b4 f4 => ?_
      walk_at "bl"
      refine canon_spec' (n := 80) (hr.mono (by decide)) hq.w hq.n (by omega) (by decide) ?_
      obtain ⟨g0, m0⟩ := canon_gd (s := d - 1) hr (by decide) (sr_mg hr) hq (by omega)
      generalize canon r (d - 1) q = y at g0 m0 ⊢
      have c4 : S4 c = some (xs.map rt) := by rw [f4 c (Ne.symm nac), f3 c (Ne.symm nac), f2 c (Ne.symm nac)]; exact hsc
      walk_at "bl"
      -- one is put in
      have put : ∀ (y : Rt) (s : Sto) (o4 o6 o7 o12 o13 : Option D), Dr (i + 1) y → Bg s a → s c = some (xs.map rt) → (sSeq (sAsg (dB bLen (aCons (dLcG (vr 3) (.nm 13) (tbl (dTwo (dCall m_compare 2 0 (fun ds _ => ds) (aCons (vr 13) (aCons (vr 5) (aNil))) aNil) (cn (.int 0)) fLt)) (vr 13) [12, 13]) (aNil))) (.nm 7)) (sDrop (dLm gIns (vr 3) (aCons (vr 7) (aCons (vr 5) (aNil)))))) [some (.lst (ns.map D.int)), some (.int (0 + j)), some (.ref a), some (.ref c), o4, some (rt y), o6, o7, o8, o9, o10, o11, o12, o13, o14] s N2 := by
        intro y s o4 o6 o7 o12 o13 gy hb hc
        walk_at "bl"
        refine lcG' rfl hc (by rw [List.length_map]; omega) ?_
        show lcGoG c (xs.map rt) (.nm 13) _ _ [some (.lst (ns.map D.int)), some (.int (0 + j)), some (.ref a), some (.ref c), o4, some (rt y), o6, o7, o8, o9, o10, o11, none, none, o14] (xs.map rt) s _
        refine lcG_filter (p := fun x => decide (sg (val x - val y) < 0)) hc xs (fun x hx' Q' q => ?_) (fun x hx' Q' q => ?_) ?_
        · show tbl _ [some (.lst (ns.map D.int)), some (.int (0 + j)), some (.ref a), some (.ref c), o4, some (rt y), o6, o7, o8, o9, o10, o11, none, some (rt x), o14] s _ _
          walk_at "bl"
          refine cmp_rk (gd_rk (hx x hx').g) (gd_rk gy.g) ?_
          walk_at "bl"
          exact q
        · exact q
        · have ln := List.length_filter_le (fun x => decide (sg (val x - val y) < 0)) xs
          walk_at "bl"
          rw [List.length_map]
          walk_at "bl"
          refine insG rfl hc ?_
          walk_at "bl"
          refine insK hc (by rw [List.length_map]; omega) (by omega) ?_
          refine hnx2 _ _ ⟨ins xs y, _, _, _, _, _, _, rfl, ?_, bsup hb, by rw [ins_len, hlx], ins_up hup, fun x hx' => ?_⟩
          · rw [sup_same]
            unfold ins
            simp only [List.map_append, List.map_take, List.map_drop, List.map_cons, List.map_nil]
          · rcases ins_mem.mp hx' with h | h
            · rw [h]; exact gy
            · exact ⟨(hx x h).g, (hx x h).m.mono (by omega)⟩
      have m0' : Mg (((i + 1 : Nat) : Int) * 2 ^ 42) y.b := m0.mono (by
        have h1 : (2 : Int) ^ 40 + 2 ^ 40 ≤ 2 ^ 42 := by decide
        omega)
      by_cases hxs : xs = []
      · refine neR_nil c4 ?_
        walk_at "bl"
        refine Go.ifD (fun _ => ?_) fun h => absurd hxs h
        walk_at "bl"
        exact put y S4 _ _ _ _ _ ⟨g0, m0'⟩ b4 c4
      · obtain ⟨ys, x, rfl⟩ : ∃ ys x, xs = ys ++ [x] := ⟨xs.dropLast, xs.getLast hxs, (List.dropLast_concat_getLast hxs).symm⟩
        obtain ⟨gx, mx⟩ := hx x (List.mem_append_right _ (List.mem_singleton.mpr rfl))
        have atl : atI ((ys ++ [x]).map rt) (-1) = some (rt x) := by
          rw [List.map_append, List.map_singleton]
          exact Go.atI_last
        refine neR_nil c4 ?_
        walk_at "bl"
        refine Go.ifD (fun h => absurd h hxs) fun _ => ?_
        walk_at "bl"
        refine take_spec b4 (by decide) (sm_k (by decide)) fun w S5 w0 w1 b5 f5 => ?_
        have c5 : S5 c = some ((ys ++ [x]).map rt) := by rw [f5 c (Ne.symm nac)]; exact c4
        walk_at "bl"
        refine Go.ifD (fun _ => ?_) fun _ => ?_
        · walk_at "bl"
          refine take_spec b5 (by decide) (sm_k (by decide)) fun u S6 u0 u1 b6 f6 => ?_
          have c6 : S6 c = some ((ys ++ [x]).map rt) := by rw [f6 c (Ne.symm nac)]; exact c5
          obtain ⟨n, rfl⟩ : ∃ n : Nat, u = n := ⟨u.toNat, by omega⟩
          walk_at "bl"
          refine tens_spec (n := n + 1) (by omega) (by omega) ?_
          have tp : (0 : Int) < 10 ^ (n + 1) := Int.pow_pos (by decide)
          have ts := ten_sm (show n + 1 ≤ 9 by omega)
          walk_at "bl"
          refine Go.ixR c6 atl ?_
          walk_at "bl"
          refine bounds_spec gx.ok gx.b gx.q tp ts (by decide) (by decide) fun lo hi l1 l2 l3 => ?_
          walk_at "bl"
          refine take_spec b6 (by decide) (sm_k (by decide)) fun v S7 v0 v1 b7 f7 => ?_
          have c7 : S7 c = some ((ys ++ [x]).map rt) := by rw [f7 c (Ne.symm nac)]; exact c6
          obtain ⟨n1, n2⟩ := low_near gx mx tp l1 l2 l3 v0 v1
          walk_at "bl"
          have hz : ((lo + v : Int) : Rat) / ((10 ^ (n + 1) : Int) : Rat) * ((10 ^ (n + 1) : Int) : Rat) = ((lo + v : Int) : Rat) := Rat.div_mul_cancel (castne (by omega))
          have hBB : (i : Int) * 2 ^ 42 + 2 ^ 21 + 8 ≤ 2 ^ 46 := by
            have : (i : Int) * 2 ^ 42 ≤ 7 * 2 ^ 42 := Int.mul_le_mul_of_nonneg_right (by omega) (by decide)
            have e : (7 : Int) * 2 ^ 42 + 2 ^ 21 + 8 ≤ 2 ^ 46 := by decide
            omega
          have sp := near_sm tp ts hBB n1 n2
          have mr := near_fr tp n1 n2 hz
          obtain ⟨sa, sb⟩ := low_sm (n := 77) (m := 30) (by omega) hz sp ts
          refine Lb.low_spec (n := 77) (r := ((lo + v : Int) : Rat) / ((10 ^ (n + 1) : Int) : Rat)) (by omega) sp (ts.mono (by decide)) (by decide) hz ?_
          generalize ((lo + v : Int) : Rat) / ((10 ^ (n + 1) : Int) : Rat) = b at hz mr sa sb ⊢
          walk_at "bl"
          refine put ⟨b, 0, 0⟩ S7 _ _ _ _ _ ⟨gd_zero ⟨sa.mono (by decide), sb.mono (by decide)⟩, mr.mono ?_⟩ b7 c7
          have h1 : (2 : Int) ^ 21 + 8 ≤ 2 ^ 42 := by decide
          omega
        · exact put y S5 _ _ _ _ _ ⟨g0, m0'⟩ b5 c5
    · rintro e s ⟨xs, o4, o5, o6, o7, o12, o13, rfl, hsc, hbs, hlx, hup, hx⟩
      have h42 : (0 : Int) ≤ 2 ^ 42 := by decide
      dsimp only
      refine Go.seq ?_
      refine Go.frz rfl hsc ?_
      show sAsg _ _ [some (.lst (ns.map D.int)), some (.int (0 + j)), some (.ref a), some (.lst (xs.map rt)), o4, o5, o6, o7, o8, o9, o10, o11, o12, o13, o14] _ _
      have b0 : Bg (sdel s c) a := by
        obtain ⟨u, v, e, r⟩ := hbs
        exact ⟨u, v, by unfold sdel; rw [if_neg nac]; exact e, r⟩
      walk_at "bl"
      refine number_spec b0 fun g S2 hg b2 f2 => ?_
      walk_at "bl"
      have gd := den_pos g
      have sn : sm 41 ((if g.num < 0 then -g.num else g.num) + 1) := by
        have := hg.n
        unfold sm at this ⊢
        have e : (2 : Nat) ^ 41 = 2 ^ 40 + 2 ^ 40 := by decide
        split <;> omega
      have hh : (((if g.num < 0 then -g.num else g.num) + 1 : Int) : Rat) / ((g.den : Int) : Rat) * ((g.den : Int) : Rat) = (((if g.num < 0 then -g.num else g.num) + 1 : Int) : Rat) := Rat.div_mul_cancel (castne (by omega))
      have hp : (0 : Rat) < (((if g.num < 0 then -g.num else g.num) + 1 : Int) : Rat) := Rat.intCast_pos.mpr (by split <;> omega)
      obtain ⟨z1, z2⟩ := low_sm (by omega) hh sn hg.d
      refine Lb.low_spec (n := 41) (by omega) sn (hg.d.mono (by decide)) (by decide) hh ?_
      have hgp : (0 : Rat) < ((g.den : Int) : Rat) := Rat.intCast_pos.mpr gd
      generalize (((if g.num < 0 then -g.num else g.num) + 1 : Int) : Rat) / ((g.den : Int) : Rat) = h at *
      have h0 : 0 < h := pos_left hgp (by rw [hh]; exact hp)
      have hn0 : h ≠ 0 := by grind
      have hs : sr 42 h := ⟨z1.mono (by decide), z2.mono (by decide)⟩
      clear hh hp z1 z2 sn
      have hl7 : ∀ {α : Type} {f : Rt → α}, (xs.map f).length < sizeLine := fun {α f} => by rw [List.length_map, hlx]; decide
      have mvk : ∀ x ∈ xs, Rk ⟨x.b + g, x.s, x.q⟩ := fun x hx' => by
        have gx := (hx x hx').g
        exact ⟨move_ok gx.ok, move_cn gx.cn, (gx.b.add hg).mono (by decide), gx.q.mono (by decide)⟩
      have sck : ∀ {u : Rat}, u ≠ 0 → sr 42 u → ∀ x ∈ xs, Rk ⟨x.b * u, x.s * u.num.sign, x.q * (u * u)⟩ := fun {u} u0 us x hx' => by
        have gx := (hx x hx').g
        exact ⟨scale_ok gx.ok u0, scale_cn' gx.cn u0, (gx.b.mul us).mono (by decide), (gx.q.mul (us.mul us)).mono (by decide)⟩
      have nn0 : -h ≠ 0 := by grind
      walk_at "bl"
      refine Go.lc' hl7 ?_
      walk_at "bl"
      refine lc_map (h := fun x => rt ⟨x.b + g, x.s, x.q⟩) xs (fun x hx' Q' q => ?_) ?_
      · dsimp only [List.set]
        walk_at "bl"
        exact moved_spec (n := 120) (hx x hx').g.b (hg.mono (by decide)) (by decide) q
      walk_at "bl"
      refine Go.lc' hl7 ?_
      walk_at "bl"
      refine lc_map (h := fun x => rt ⟨x.b * h, x.s * h.num.sign, x.q * (h * h)⟩) xs (fun x hx' Q' q => ?_) ?_
      · dsimp only [List.set]
        walk_at "bl"
        have gx := (hx x hx').g
        refine scaled_spec (n := 120) gx.b (gx.q.mono (by decide)) hs gx.ok.q0 gx.ok.s (by decide) ?_
        rw [scale_cn gx.cn hn0]
        exact q
      walk_at "bl"
      refine Go.lstRK' rfl fun c9 hc9 => ?_
      walk_at "bl"
      refine Go.appG rfl sup_same ?_
      unfold dRvs
      walk_at "bl"
      refine Go.lc' hl7 ?_
      walk_at "bl"
      refine lc_map (h := fun x => rt ⟨x.b * -h, x.s * (-h).num.sign, x.q * (-h * -h)⟩) xs (fun x hx' Q' q => ?_) ?_
      · dsimp only [List.set]
        walk_at "bl"
        have gx := (hx x hx').g
        refine scaled_pr (y := -h) (n := 120) (by rw [Rat.neg_num]; omega) (by rw [Rat.neg_den]) gx.b (gx.q.mono (by decide)) hs.neg gx.ok.q0 gx.ok.s (by decide) ?_
        rw [scale_cn gx.cn nn0]
        exact q
      walk_at "bl"
      refine ⟨rfl, ?_⟩
      unfold fRv
      dsimp only
      walk_at "bl"
      refine Go.appK sup_same (by simp) ?_
      walk_at "bl"
      have rows : ∃ R : List (List Rt), (∀ r ∈ R, r.length ≤ 900 ∧ (∀ x ∈ r, Rk x) ∧ Up r) ∧ R.length = 4 ∧ [D.lst (List.map rt xs), D.lst (List.map (fun x => rt { b := x.b + g, s := x.s, q := x.q }) xs), D.lst (List.map (fun x => rt { b := x.b * h, s := x.s * h.num.sign, q := x.q * (h * h) }) xs)] ++ [D.lst (List.map (fun x => rt { b := x.b * -h, s := x.s * (-h).num.sign, q := x.q * (-h * -h) }) xs).reverse] = R.map fun l => D.lst (l.map rt) := by
        refine ⟨[xs, xs.map fun x => ⟨x.b + g, x.s, x.q⟩, xs.map fun x => ⟨x.b * h, x.s * h.num.sign, x.q * (h * h)⟩, (xs.map fun x => ⟨x.b * -h, x.s * (-h).num.sign, x.q * (-h * -h)⟩).reverse], fun r hr => ?_, rfl, ?_⟩
        · have hpR := of_pos h0
          simp only [List.mem_cons, List.not_mem_nil, or_false] at hr
          rcases hr with e | e | e | e <;> subst e
          · exact ⟨by omega, fun x hx' => gd_rk (hx x hx').g, hup⟩
          · refine ⟨by rw [List.length_map]; omega, fun x hx' => ?_, up_map hup fun a ha b hb l => ?_⟩
            · obtain ⟨y, hy, rfl⟩ := List.mem_map.mp hx'
              exact mvk y hy
            · rw [move_val, move_val]; grind
          · refine ⟨by rw [List.length_map]; omega, fun x hx' => ?_, up_map hup fun a ha b hb l => ?_⟩
            · obtain ⟨y, hy, rfl⟩ := List.mem_map.mp hx'
              exact sck hn0 hs y hy
            · rw [scale_val (hx a ha).g.ok hn0, scale_val (hx b hb).g.ok hn0]
              have := mul_nn' (show 0 ≤ val b - val a by grind) (show 0 ≤ Real.of h by grind)
              grind
          · refine ⟨by rw [List.length_reverse, List.length_map]; omega, fun x hx' => ?_, up_rev hup fun a ha b hb l => ?_⟩
            · obtain ⟨y, hy, rfl⟩ := List.mem_map.mp (List.mem_reverse.mp hx')
              exact sck nn0 hs.neg y hy
            · rw [scale_val (hx a ha).g.ok nn0, scale_val (hx b hb).g.ok nn0, Real.of_neg]
              have := mul_nn' (show 0 ≤ val b - val a by grind) (show 0 ≤ Real.of h by grind)
              grind
        · simp only [List.map_cons, List.map_nil, List.map_map, List.map_reverse, List.cons_append, List.nil_append, Function.comp_def]
      obtain ⟨R, hR, lR, eR⟩ := rows
      rw [eR]
      refine lcG' rfl sup_same (by rw [List.length_map]; omega) ?_
      refine lcG_map (h := fun _ => .bl true) sup_same R (fun r hr Q' q => ?_) ?_
      · show dCall _ _ _ _ _ _ [some (.lst (ns.map D.int)), some (.int (0 + j)), some (.ref a), some (.lst (xs.map rt)), o4, o5, some (fr g), o7, some (fr h), some (.ref c9), o10, o11, none, o13, some (.lst (r.map rt))] _ _ _
        walk_at "bl"
        obtain ⟨r1, r2, r3⟩ := hR r hr
        exact rows_spec r1 r2 r3 q
      walk_at "bl"
      refine all_map ?_
      walk_at "bl"
      refine Go.r1' (n := 6) rfl (by decide) ?_
      refine forD_rng (fun i e s => ∃ o5 o10 o11 o12, e = [some (.lst (ns.map D.int)), some (.int (0 + j)), some (.ref a), some (.lst (xs.map rt)), o4, o5, some (fr g), o7, some (fr h), some (.ref c9), o10, o11, o12, o13, o14]) ⟨_, _, _, _, rfl⟩ ?_ ?_
      · rintro i e s hi ⟨o5, o10, o11, o12, rfl⟩
        refine ⟨_, rfl, fun N3 hnx3 _ _ _ _ => ?_⟩
        show sIf _ _ _ [some (.lst (ns.map D.int)), some (.int (0 + j)), some (.ref a), some (.lst (xs.map rt)), o4, o5, some (fr g), o7, some (fr h), some (.ref c9), some (.int (0 + i)), o11, o12, o13, o14] _ _
        rw [show (0 : Int) + (i : Int) = ((i : Nat) : Int) by omega]
        obtain ⟨x, ex⟩ : ∃ x, xs[i]? = some x := ⟨xs[i]'(by omega), List.getElem?_eq_getElem (by omega)⟩
        obtain ⟨y, ey⟩ : ∃ y, xs[i + 1]? = some y := ⟨xs[i + 1]'(by omega), List.getElem?_eq_getElem (by omega)⟩
        have ax : atI (xs.map rt) ((i : Nat) : Int) = some (rt x) := atI_nat (by rw [List.getElem?_map, ex]; rfl)
        have ay : atI (xs.map rt) ((i : Int) + 1) = some (rt y) := by
          rw [show (i : Int) + 1 = ((i + 1 : Nat) : Int) by omega]
          exact atI_nat (by rw [List.getElem?_map, ey]; rfl)
        have gx := (hx x (List.mem_of_getElem? ex)).g
        have gy := (hx y (List.mem_of_getElem? ey)).g
        have le := up_get hup ex ey (by omega)
        walk_at "bl"
        refine Go.ixL ax ?_
        walk_at "bl"
        refine Go.ixL ay ?_
        walk_at "bl"
        refine ⟨ok_rt _, ok_rt _, ?_⟩
        rw [rt_eqd]
        walk_at "bl"
        refine Go.ifD (fun _ => hnx3 _ _ ⟨_, _, _, _, rfl⟩) fun ne => ?_
        walk_at "bl"
        refine Go.ixL ax ?_
        walk_at "bl"
        refine Go.ixL ay ?_
        walk_at "bl"
        refine between_spec gx gy ne fun r s1 s2 hh => ?_
        have h2 : val x < Real.of r ∧ Real.of r < val y := by
          rcases hh with h | ⟨h1, h2⟩
          · exact h
          · grind
        walk_at "bl"
        rw [show (i : Int) + 1 = ((i + 1 : Nat) : Int) by omega]
        refine Go.slL (cut_to (by rw [List.length_map]; omega)) ?_
        rw [← List.map_take]
        walk_at "bl"
        refine Go.lc' (by rw [List.length_map, List.length_take]; have : 7 < sizeLine := (by decide); omega) ?_
        walk_at "bl"
        refine lc_map (h := fun _ => .bl true) (xs.take (i + 1)) (fun z hz Q' q => ?_) ?_
        · dsimp only [List.set]
          walk_at "bl"
          obtain ⟨k, ek⟩ := List.mem_iff_getElem?.mp hz
          rw [List.getElem?_take] at ek
          split at ek <;> first | cases ek; done | skip
          have lz := up_get hup ek ex (by omega)
          refine cmp_mid1 (hx z (List.mem_of_getElem? ek)).g s1 (by grind) ?_
          walk_at "bl"
          exact q
        walk_at "bl"
        refine all_map ?_
        walk_at "bl"
        rw [show (i : Int) + 1 = ((i + 1 : Nat) : Int) by omega]
        refine Go.slL (cut_from (by rw [List.length_map]; omega)) ?_
        rw [← List.map_drop]
        walk_at "bl"
        refine Go.lc' (by rw [List.length_map, List.length_drop]; have : 7 < sizeLine := (by decide); omega) ?_
        walk_at "bl"
        refine lc_map (h := fun _ => .bl true) (xs.drop (i + 1)) (fun z hz Q' q => ?_) ?_
        · dsimp only [List.set]
          walk_at "bl"
          obtain ⟨k, ek⟩ := List.mem_iff_getElem?.mp hz
          rw [List.getElem?_drop] at ek
          have lz := up_get hup ey ek (by omega)
          refine cmp_mid2 (hx z (List.mem_of_getElem? ek)).g s1 (by grind) ?_
          walk_at "bl"
          exact q
        walk_at "bl"
        refine all_map ?_
        walk_at "bl"
        exact hnx3 _ _ ⟨_, _, _, _, rfl⟩
      · rintro e s ⟨o5, o10, o11, o12, rfl⟩
        exact hnx _ _ ⟨_, _, _, _, _, _, _, _, _, _, _, _, _, _, rfl⟩
  · rintro e s ⟨o1, o2, o3, o4, o5, o6, o7, o8, o9, o10, o11, o12, o13, o14, rfl⟩
    walk_at "bl"
    rfl
end Lr.K06

namespace Lr.K06
open PySem PySem.Spec PyProof.Rows L2 Bl Lb
theorem facts {P : Program} {w : World} {K : PySem.W.Frag} {h : Heap} {mg : Str → Option Value} {f : Addr} (X : K.In h) (G : h.Ns mainGlobals mg) (hfa : mg ("law" : Str) = some (.ref f)) (c : He.SaysD fa fn K ∧ bx K = true) :
    ∃ fd : FuncData, (∀ (s : Shared) (v : Value), BindsTo s fd ⟨[v], []⟩ [("_law_script", v)]) ∧ ∀ base : Heap, K.In base → base.Ns mainGlobals mg → FnOk P w K mg base (L2.CX P w) 9 f fd ["_law_script"] (spLaw K 63) := by
  have T : Tp fa fn bx K mg := Tp.mk' X G c
  obtain ⟨fd, F⟩ := T.sy.def_ 28 (d := d_law) rfl
  have e := hfa.symm.trans (T.glo 39 (x := "law"))
  cases e
  refine ⟨fd, fun s v => FunD.bindsA (ps := ["_law_script"]) F (fun _ _ _ _ _ _ us hl => match us, hl with | [_], _ => rfl) s [v] rfl, fun base _ _ => ?_⟩
  have hok : FnOk P w K mg base (L2.CX P w) 9 _ fd ["_law_script"] (LSp K 1 m_law) := ok_law T F
  exact hok.imp (law_sp (mo_law (P := P) (w := w) (base := base) T) law_pure)
end Lr.K06
open PySem PySem.W PyProof.Rows
set_option maxHeartbeats 0 in
theorem PySem.Challenge.cw_bendlands_k06_roots_in_one_row_holds : PySem.Challenge.rw_bendlands_k06_roots_in_one_row.Holds := by
  w_on; o_law
  refine HandSHeadRun.head_any (r := OpenLaw.row PySem.Challenge.rw_bendlands_k06_roots_in_one_row) (q := view (OpenLaw.row PySem.Challenge.rw_bendlands_k06_roots_in_one_row).prog [39]) (H := Lr.K06.hk) (ob := Bl.obX 5 Lr.K06.fa Lr.K06.fn Lr.K06.bx) (M := 6000) (loose := Lr.K06.names) (d := HandSHeadRun.topDef (OpenLaw.row PySem.Challenge.rw_bendlands_k06_roots_in_one_row).prog 39) (kwd := []) Bl.obX_eq
    (by kernel_rfl) (fun s => by kernel_rfl) Lr.K06.run (by kernel_rfl) (by kernel_rfl) (by kernel_rfl) (by rfl) (by first | assumption | decide +kernel) (by decide +kernel) ⟨rfl, rfl, rfl, rfl, rfl, by decide +kernel⟩ ?hw ?hc
  case hw => w_witness2
  case hc =>
    refine Bl.walk_ofX (l := PySem.Challenge.rw_bendlands_k06_roots_in_one_row) (n := 63) (k := 9) (x := "_law_script") rfl (by decide) (by kernel_rfl) ⟨rfl, by decide, by decide⟩ ?F
    case F =>
      intro w mg fa h Y G hmg0
      obtain ⟨K, KX, c⟩ := Y
      have hmg : mg ("law" : PySem.Str) = some (.ref fa) := by
        have e : (HandSHeadRun.topDef (OpenLaw.row PySem.Challenge.rw_bendlands_k06_roots_in_one_row).prog 39).name = ("law" : PySem.Str) := by kernel_rfl
        rw [← e]
        exact hmg0
      obtain ⟨fd, hb, hF⟩ := Lr.K06.facts (P := (PySem.Challenge.rw_bendlands_k06_roots_in_one_row).prog) (w := w) KX G hmg c
      exact ⟨K, fd, KX, hb, hF⟩
