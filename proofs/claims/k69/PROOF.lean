import PyProof.Rows.All
import HandS.ForMost
import HandS.ForExc
import HandS.Walk
import HandS.Wide
import HandS.IsInst
import HandS.Defaults
import HandS.Rev
import HandS.Zip
import HandS.TupAny
import HandS.Style
import HandS.Flow
import HandS.Deep
import HandS.TryOnly
import HandS.WordsExc
import HandS.MakeKwOnly
import HandS.WideBits
import HandS.HeadHook2
import HandS.HeadEnd
import HandS.Head0
import HandS.Head1
import HandS.Head2
import HandS.ExcIs
import PyProof.CollectIter
import PyProof.WalksMore
import HandS.RevTup
import KE.KUnpack
import KE.GoesEnum
import KE.GoesMore
import HandS.Dict
import HandS.List
import HandS.HeadHook3
import PySem.Challenge.RW_bendlands_k69_texts_of_things
import HandS.Text
import HandS.FStr
import HandS.Iter
import HandS.SetFor
import HandS.More
import HandS.TupMul
import HandS.Zip0
import KE.GoesZip
import KE.GoesEnumKw
import HandS.Codes
set_option Elab.async false
set_option linter.all false
set_option maxRecDepth 100000
set_option maxHeartbeats 4000000
/-! Data without addresses: tuples by their items, lists that are grown by their address; each construct of the text as a transformer over them. -/
namespace Bl
open PySem PySem.Spec PyProof.Rows L2

inductive D where
  | non | bl (b : Bool) | int (i : Int) | str (x : Str)
  | tup (ds : List D) | lst (ds : List D)
  | ref (a : Addr) | obj (a : Addr)

abbrev Sto := Addr → Option (List D)
def sup (S : Sto) (a : Addr) (ds : List D) : Sto := fun b => if b = a then some ds else S b
def sdel (S : Sto) (a : Addr) : Sto := fun b => if b = a then none else S b
theorem sup_same {S : Sto} {a : Addr} {ds : List D} : sup S a ds a = some ds := if_pos rfl
theorem sup_ne {S : Sto} {a b : Addr} {ds : List D} (h : b ≠ a) : sup S a ds b = S b := if_neg h
theorem sdel_same {S : Sto} {a : Addr} : sdel S a a = none := if_pos rfl
theorem sdel_ne {S : Sto} {a b : Addr} (h : b ≠ a) : sdel S a b = S b := if_neg h

/-- the written part, and the lists that are being made out of sight -/
structure Kz where
  K : PySem.W.Frag
  Z : Addr → Prop
/-- a list of the written part -/
def KL (K : PySem.W.Frag) (a : Addr) (xs : List V) : Prop :=
  ∃ (o : Obj) (its : Array Value) (n : Nat), K.lookup a = some o ∧ o.cls = .type "list" ∧ o.dict = none ∧ o.data = .seq its n ∧ its.size ≤ sizeLine ∧ Vals xs its.toList

mutual
inductive Rp (K : Kz) (S : Sto) (H : Hp) : D → V → Prop
  | non : Rp K S H .non .non
  | bl (b : Bool) : Rp K S H (.bl b) (.bl b)
  | int (i : Int) : Rp K S H (.int i) (.int i)
  | str (x : Str) : Rp K S H (.str x) (.str x)
  | tup {a : Addr} {vs : List V} {ds : List D} : SqT K.K H a vs → RpL K S H ds vs → Rp K S H (.tup ds) (.ref a)
  | lst {a : Addr} {vs : List V} {ds : List D} : Rd H a (.lst vs) → S a = none → ¬ K.Z a → RpL K S H ds vs → Rp K S H (.lst ds) (.ref a)
  | lstK {a : Addr} {vs : List V} {ds : List D} : KL K.K a vs → RpL K S H ds vs → Rp K S H (.lst ds) (.ref a)
  | ref (a : Addr) : Rp K S H (.ref a) (.ref a)
  | obj (a : Addr) : Rp K S H (.obj a) (.ref a)
inductive RpL (K : Kz) (S : Sto) (H : Hp) : List D → List V → Prop
  | nil : RpL K S H [] []
  | cons {d : D} {v : V} {ds : List D} {vs : List V} : Rp K S H d v → RpL K S H ds vs → RpL K S H (d :: ds) (v :: vs)
end

/-- the lists that are grown stand in the heap -/
structure RS (K : Kz) (S : Sto) (H : Hp) : Prop where
  at_ : ∀ a ds, S a = some ds → ∃ vs, H a = some (.lst vs) ∧ RpL K S H ds vs
  hid : ∀ b, K.Z b → S b = none ∧ ∃ vs, H b = some (.lst vs)
/-- what else stands, stands on -/
def Step (S : Sto) (H : Hp) (S' : Sto) (H' : Hp) : Prop := ∀ b o, H b = some o → S b = none → S' b = none ∧ H' b = some o
theorem Step.refl (S : Sto) (H : Hp) : Step S H S H := fun _ _ h n => ⟨n, h⟩
theorem Step.trans {S S1 S2 : Sto} {H H1 H2 : Hp} (a : Step S H S1 H1) (b : Step S1 H1 S2 H2) : Step S H S2 H2 := fun c o h n => by
  obtain ⟨n1, h1⟩ := a c o h n
  exact b c o h1 n1

theorem RS.off {K : Kz} {S : Sto} {H : Hp} {a : Addr} {o : HO} (rs : RS K S H) (h : H a = some o) (hn : ∀ vs, o ≠ .lst vs) : S a = none := by
  cases e : S a with
  | none => rfl
  | some ds =>
    obtain ⟨vs, q, _⟩ := rs.at_ a ds e
    rw [h] at q
    exact absurd (Option.some.inj q) (hn vs)
theorem RS.free {K : Kz} {S : Sto} {H : Hp} {a : Addr} (rs : RS K S H) (h : H a = none) : S a = none := by
  cases e : S a with
  | none => rfl
  | some ds =>
    obtain ⟨vs, q, _⟩ := rs.at_ a ds e
    rw [h] at q
    cases q
theorem Step.rdT {K : Kz} {S S' : Sto} {H H' : Hp} {a : Addr} {xs : List V} (st : Step S H S' H') (rs : RS K S H) (h : Rd H a (.tup xs)) : Rd H' a (.tup xs) := by
  rcases h with h | ⟨o, h⟩
  · exact .inl (st a _ h (rs.off h fun vs z => by cases z)).2
  · exact .inr ⟨o, (st a _ h (rs.off h fun vs z => by cases z)).2⟩
theorem Step.sqT {K : Kz} {S S' : Sto} {H H' : Hp} {a : Addr} {xs : List V} (st : Step S H S' H') (rs : RS K S H) (h : SqT K.K H a xs) : SqT K.K H' a xs := by
  rcases h with h | h
  · exact .inl (st.rdT rs h)
  · exact .inr h
theorem Step.rdL {S S' : Sto} {H H' : Hp} {a : Addr} {xs : List V} (st : Step S H S' H') (h : Rd H a (.lst xs)) (n : S a = none) : Rd H' a (.lst xs) ∧ S' a = none := by
  rcases h with h | ⟨o, h⟩
  · obtain ⟨n1, h1⟩ := st a _ h n
    exact ⟨.inl h1, n1⟩
  · obtain ⟨n1, h1⟩ := st a _ h n
    exact ⟨.inr ⟨o, h1⟩, n1⟩
section
variable {K : Kz} {S S' : Sto} {H H' : Hp}
mutual
theorem Rp.step (st : Step S H S' H') (rs : RS K S H) : ∀ (d : D) (v : V), Rp K S H d v → Rp K S' H' d v
  | .non, _, h => by cases h; exact .non
  | .bl b, _, h => by cases h; exact .bl b
  | .int i, _, h => by cases h; exact .int i
  | .str x, _, h => by cases h; exact .str x
  | .tup ds, _, h => by
    cases h with
    | tup hs ha => exact .tup (st.sqT rs hs) (RpL.step st rs ds _ ha)
  | .lst ds, _, h => by
    cases h with
    | lst hs hn hz ha => exact .lst (st.rdL hs hn).1 (st.rdL hs hn).2 hz (RpL.step st rs ds _ ha)
    | lstK hs ha => exact .lstK hs (RpL.step st rs ds _ ha)
  | .ref a, _, h => by cases h; exact .ref a
  | .obj a, _, h => by cases h; exact .obj a
theorem RpL.step (st : Step S H S' H') (rs : RS K S H) : ∀ (ds : List D) (vs : List V), RpL K S H ds vs → RpL K S' H' ds vs
  | [], _, h => by cases h; exact .nil
  | d :: ds, _, h => by
    cases h with
    | cons h1 h2 => exact .cons (Rp.step st rs d _ h1) (RpL.step st rs ds _ h2)
end
theorem RpL.length : ∀ {ds : List D} {vs : List V}, RpL K S H ds vs → ds.length = vs.length
  | [], _, h => by cases h; rfl
  | _ :: _, _, h => by
    cases h with
    | cons _ h2 => exact congrArg Nat.succ (RpL.length h2)
theorem RpL.get : ∀ {ds : List D} {vs : List V} {i : Nat} {d : D}, RpL K S H ds vs → ds[i]? = some d → ∃ v, vs[i]? = some v ∧ Rp K S H d v
  | [], _, i, d, _, e => by simp at e
  | d0 :: ds, _, i, d, h, e => by
    cases h with
    | cons h1 h2 =>
      cases i with
      | zero => simp at e; subst e; exact ⟨_, rfl, h1⟩
      | succ i =>
        obtain ⟨v, e1, e2⟩ := RpL.get (i := i) (d := d) h2 (by simpa using e)
        exact ⟨v, by simpa using e1, e2⟩
theorem RpL.get' : ∀ {ds : List D} {vs : List V} {i : Nat} {v : V}, RpL K S H ds vs → vs[i]? = some v → ∃ d, ds[i]? = some d ∧ Rp K S H d v
  | [], _, i, d, h, e => by cases h; simp at e
  | d0 :: ds, _, i, v, h, e => by
    cases h with
    | cons h1 h2 =>
      cases i with
      | zero => simp at e; subst e; exact ⟨_, rfl, h1⟩
      | succ i =>
        obtain ⟨d, e1, e2⟩ := RpL.get' (i := i) (v := v) h2 (by simpa using e)
        exact ⟨d, by simpa using e1, e2⟩
theorem RpL.append : ∀ {ds es : List D} {vs ws : List V}, RpL K S H ds vs → RpL K S H es ws → RpL K S H (ds ++ es) (vs ++ ws)
  | [], _, _, _, h, h2 => by cases h; exact h2
  | _ :: _, _, _, _, h, h2 => by
    cases h with
    | cons p q => exact .cons p (RpL.append q h2)
theorem RpL.take : ∀ {ds : List D} {vs : List V} (n : Nat), RpL K S H ds vs → RpL K S H (ds.take n) (vs.take n)
  | _, _, 0, _ => by simp; exact .nil
  | [], _, n + 1, h => by cases h; exact .nil
  | d :: ds, _, n + 1, h => by
    cases h with
    | cons p q => exact .cons p (RpL.take n q)
theorem RpL.drop : ∀ {ds : List D} {vs : List V} (n : Nat), RpL K S H ds vs → RpL K S H (ds.drop n) (vs.drop n)
  | _, _, 0, h => h
  | [], _, n + 1, h => by cases h; exact .nil
  | d :: ds, _, n + 1, h => by
    cases h with
    | cons p q => exact RpL.drop n q
theorem RpL.set : ∀ {ds : List D} {vs : List V} {d : D} {v : V} (i : Nat), RpL K S H ds vs → Rp K S H d v → RpL K S H (ds.set i d) (vs.set i v)
  | [], _, d, v, i, h, h1 => by cases h; exact .nil
  | _ :: _, _, d, v, i, h, h1 => by
    cases h with
    | cons p q =>
      cases i with
      | zero => exact .cons h1 q
      | succ i => exact .cons p (RpL.set i q h1)
theorem RpL.ints {ns : List Int} : RpL K S H (ns.map D.int) (ns.map V.int) := by
  induction ns with
  | nil => exact .nil
  | cons n r ih => exact .cons (.int n) ih
end

/-! ### the slots -/
abbrev Ev := List (Option D)
structure RE (K : Kz) (S : Sto) (H : Hp) (env : Ev) (σ : L2.St) : Prop where
  len : env.length = σ.length
  at_ : ∀ (i : Nat) (d : D), env[i]? = some (some d) → ∃ v, σ[i]? = some (some v) ∧ Rp K S H d v
section
variable {K : Kz} {S S' : Sto} {H H' : Hp} {env : Ev} {σ : L2.St}
theorem RE.step (st : Step S H S' H') (rs : RS K S H) (re : RE K S H env σ) : RE K S' H' env σ :=
  ⟨re.len, fun i d e => by
    obtain ⟨v, e1, r⟩ := re.at_ i d e
    exact ⟨v, e1, Rp.step st rs d v r⟩⟩
theorem RE.set (re : RE K S H env σ) {d : D} {v : V} (r : Rp K S H d v) (i : Nat) : RE K S H (env.set i (some d)) (σ.set i (some v)) := by
  refine ⟨by rw [List.length_set, List.length_set]; exact re.len, fun j e h => ?_⟩
  by_cases hj : i = j
  · subst hj
    by_cases hl : i < env.length
    · rw [List.getElem?_set_self hl] at h
      cases h
      exact ⟨v, List.getElem?_set_self (by rw [← re.len]; exact hl), r⟩
    · rw [List.getElem?_eq_none (by rw [List.length_set]; omega)] at h
      cases h
  · rw [List.getElem?_set_ne hj] at h
    rw [List.getElem?_set_ne hj]
    exact re.at_ j e h
theorem RE.unset (re : RE K S H env σ) (i : Nat) : RE K S H (env.set i none) (σ.set i none) := by
  refine ⟨by rw [List.length_set, List.length_set]; exact re.len, fun j e h => ?_⟩
  by_cases hj : i = j
  · subst hj
    by_cases hl : i < env.length
    · rw [List.getElem?_set_self hl] at h
      cases h
    · rw [List.getElem?_eq_none (by rw [List.length_set]; omega)] at h
      cases h
  · rw [List.getElem?_set_ne hj] at h
    rw [List.getElem?_set_ne hj]
    exact re.at_ j e h
theorem RE.start {ds : List D} {vs : List V} (r : RpL K S H ds vs) (n : Nat) : RE K S H (ds.map some ++ List.replicate n none) (vs.map some ++ List.replicate n none) := by
  refine ⟨by simp [r.length], fun i d h => ?_⟩
  by_cases hi : i < ds.length
  · rw [List.getElem?_append_left (by simpa using hi), List.getElem?_map] at h
    cases e : ds[i]? with
    | none => rw [e] at h; cases h
    | some x =>
      rw [e] at h
      cases h
      obtain ⟨v, e1, r1⟩ := r.get e
      have hv : i < vs.length := by rw [← r.length]; exact hi
      exact ⟨v, by rw [List.getElem?_append_left (by simpa using hv), List.getElem?_map, e1]; rfl, r1⟩
  · rw [List.getElem?_append_right (by simpa using hi), List.getElem?_replicate] at h
    split at h <;> cases h
end

/-! ### an exception -/
structure Xc where
  nm : Str
  fs : List (Str × D)
def RX (K : Kz) (S : Sto) (H : Hp) (x : Xc) (c : Value) (dx : Option Addr) : Prop :=
  (∃ C, PySem.W.nsIn K.K mainGlobals x.nm = some (some (.ref C)) ∧ c = .ref C) ∧ match dx with
    | none => x.fs = []
    | some a => x.fs ≠ [] ∧ ∃ fv : List (Str × V), H a = some (.xd fv) ∧ fv.map (·.1) = x.fs.map (·.1) ∧ RpL K S H (x.fs.map (·.2)) (fv.map (·.2))

/-! ### transformers -/
abbrev DK := D → Sto → Prop
abbrev EK := Xc → Sto → Prop
abbrev TX (α : Type) := Ev → Sto → (α → Sto → Prop) → EK → Prop
abbrev TEd := TX D
abbrev TTd := TX Bool
abbrev TAd := TX (List D)
structure Nd where
  nx : Ev → Sto → Prop
  rt : DK
  bk : Ev → Sto → Prop
  ct : Ev → Sto → Prop
  ex : Xc → Ev → Sto → Prop
abbrev TSd := Ev → Sto → Nd → Prop
abbrev TFd := List D → Sto → DK → EK → Prop
def MoE {α : Type} (t : TX α) : Prop := ∀ env S (Q Q' : α → Sto → Prop) (E E' : EK), (∀ d S, Q d S → Q' d S) → (∀ x S, E x S → E' x S) → t env S Q E → t env S Q' E'
structure NdLe (A B : Nd) : Prop where
  nx : ∀ e S, A.nx e S → B.nx e S
  rt : ∀ d S, A.rt d S → B.rt d S
  bk : ∀ e S, A.bk e S → B.bk e S
  ct : ∀ e S, A.ct e S → B.ct e S
  ex : ∀ x e S, A.ex x e S → B.ex x e S
def MoS (t : TSd) : Prop := ∀ env S (A B : Nd), NdLe A B → t env S A → t env S B
def MoF (f : TFd) : Prop := ∀ ds S (Q Q' : DK) (E E' : EK), (∀ d S, Q d S → Q' d S) → (∀ x S, E x S → E' x S) → f ds S Q E → f ds S Q' E'

structure Aft (K : Kz) (S : Sto) (H : Hp) (S' : Sto) (H' : Hp) : Prop where
  st : Step S H S' H'
  rs : RS K S' H'
theorem Aft.trans {K : Kz} {S S1 S2 : Sto} {H H1 H2 : Hp} (a : Aft K S H S1 H1) (b : Aft K S1 H1 S2 H2) : Aft K S H S2 H2 := ⟨a.st.trans b.st, b.rs⟩
theorem Aft.refl {K : Kz} {S : Sto} {H : Hp} (rs : RS K S H) : Aft K S H S H := ⟨Step.refl S H, rs⟩

/-- what is wanted of an exception -/
def PX (K : Kz) (S : Sto) (H : Hp) (σ : L2.St) (W : WX) : EK := fun x S' => ∀ c dx H', Aft K S H S' H' → RX K S' H' x c dx → W c dx σ H'
def LE (K : PySem.W.Frag) (W : WX) (t : TEd) : TE := fun σ H Q => ∃ Z env S, RE ⟨K, Z⟩ S H env σ ∧ RS ⟨K, Z⟩ S H ∧ t env S (fun d S' => ∀ v H', Aft ⟨K, Z⟩ S H S' H' → Rp ⟨K, Z⟩ S' H' d v → Q v H') (PX ⟨K, Z⟩ S H σ W)
def LT (K : PySem.W.Frag) (W : WX) (t : TTd) : TT := fun σ H Q => ∃ Z env S, RE ⟨K, Z⟩ S H env σ ∧ RS ⟨K, Z⟩ S H ∧ t env S (fun b S' => ∀ H', Aft ⟨K, Z⟩ S H S' H' → Q b H') (PX ⟨K, Z⟩ S H σ W)
def LA (K : PySem.W.Frag) (W : WX) (t : TAd) : TA := fun σ H Q => ∃ Z env S, RE ⟨K, Z⟩ S H env σ ∧ RS ⟨K, Z⟩ S H ∧ t env S (fun ds S' => ∀ vs H', Aft ⟨K, Z⟩ S H S' H' → RpL ⟨K, Z⟩ S' H' ds vs → Q vs H') (PX ⟨K, Z⟩ S H σ W)
def LN (K : Kz) (S : Sto) (H : Hp) (W : WX) (N : Ends) : Nd where
  nx := fun e S' => ∀ σ' H', Aft K S H S' H' → RE K S' H' e σ' → N.nx σ' H'
  rt := fun d S' => ∀ v H', Aft K S H S' H' → Rp K S' H' d v → N.rt v H'
  bk := fun e S' => ∀ σ' H', Aft K S H S' H' → RE K S' H' e σ' → N.bk σ' H'
  ct := fun e S' => ∀ σ' H', Aft K S H S' H' → RE K S' H' e σ' → N.ct σ' H'
  ex := fun x e S' => ∀ c dx σ' H', Aft K S H S' H' → RE K S' H' e σ' → RX K S' H' x c dx → W c dx σ' H'
def LS (K : PySem.W.Frag) (W : WX) (t : TSd) : TS := fun N σ H => ∃ Z env S, RE ⟨K, Z⟩ S H env σ ∧ RS ⟨K, Z⟩ S H ∧ t env S (LN ⟨K, Z⟩ S H W N)

structure JE (X : Cx) (W : WX) (e : Expr) (t : TEd) : Prop where
  pe : PE X e (LE X.K W t)
  mo : MoE t
structure JT (X : Cx) (W : WX) (e : Expr) (t : TTd) : Prop where
  pt : PT X e (LT X.K W t)
  mo : MoE t
structure JW (X : Cx) (W : WX) (e : Expr) (t : TTd) : Prop where
  pw : PW X e (LT X.K W t)
  mo : MoE t
structure JA (X : Cx) (W : WX) (es : List Expr) (t : TAd) : Prop where
  pa : PA X es (LA X.K W t)
  mo : MoE t
structure JS (X : Cx) (W : WX) (st : Stmt) (t : TSd) : Prop where
  ps : PS X st (LS X.K W t)
  mo : MoS t
structure JB (X : Cx) (W : WX) (st : List Stmt) (t : TSd) : Prop where
  ps : PSs X st (LS X.K W t)
  mo : MoS t

theorem PE.imp {X : Cx} {e : Expr} {t u : TE} (h : PE X e t) (k : ∀ σ H Q, u σ H Q → t σ H Q) : PE X e u := ⟨fun pins s σ H Q I q => h.run pins s σ H Q I (k σ H Q q)⟩
theorem PT.imp {X : Cx} {e : Expr} {t u : TT} (h : PT X e t) (k : ∀ σ H Q, u σ H Q → t σ H Q) : PT X e u := ⟨fun pins s σ H Q I q => h.run pins s σ H Q I (k σ H Q q)⟩
theorem PW.imp {X : Cx} {e : Expr} {t u : TT} (h : PW X e t) (k : ∀ σ H Q, u σ H Q → t σ H Q) : PW X e u := ⟨fun wh pins s σ H Q I q => h.run wh pins s σ H Q I (k σ H Q q)⟩
theorem PA.imp {X : Cx} {es : List Expr} {t u : TA} (h : PA X es t) (k : ∀ σ H Q, u σ H Q → t σ H Q) : PA X es u := ⟨fun p pins s σ H Q I q => h.run p pins s σ H Q I (k σ H Q q)⟩
theorem PS.imp {X : Cx} {st : Stmt} {t u : TS} (h : PS X st t) (k : ∀ N σ H, u N σ H → t N σ H) : PS X st u := ⟨fun pins s σ H N I q => h.run pins s σ H N I (k N σ H q)⟩
theorem PSs.imp {X : Cx} {st : List Stmt} {t u : TS} (h : PSs X st t) (k : ∀ N σ H, u N σ H → t N σ H) : PSs X st u := ⟨fun pins s σ H N I q => h.run pins s σ H N I (k N σ H q)⟩

/-! ### the lifted forms, from a state -/
section
variable {K : Kz} {W : WX} {S : Sto} {H : Hp} {env : Ev} {σ : L2.St}
theorem LE.of {t : TEd} (mo : MoE t) (re : RE K S H env σ) (rs : RS K S H) {C : DK} {E : EK} {R : VK} (h : t env S C E)
    (hc : ∀ d S1 v H1, C d S1 → Aft K S H S1 H1 → Rp K S1 H1 d v → R v H1) (he : ∀ x S1 c dx H1, E x S1 → Aft K S H S1 H1 → RX K S1 H1 x c dx → W c dx σ H1) : LE K.K W t σ H R :=
  ⟨K.Z, env, S, re, rs, mo _ _ _ _ _ _ (fun d S1 q v H1 a r => hc d S1 v H1 q a r) (fun x S1 q c dx H1 a r => he x S1 c dx H1 q a r) h⟩
theorem LT.of {t : TTd} (mo : MoE t) (re : RE K S H env σ) (rs : RS K S H) {C : Bool → Sto → Prop} {E : EK} {R : Bool → Hp → Prop} (h : t env S C E)
    (hc : ∀ d S1 H1, C d S1 → Aft K S H S1 H1 → R d H1) (he : ∀ x S1 c dx H1, E x S1 → Aft K S H S1 H1 → RX K S1 H1 x c dx → W c dx σ H1) : LT K.K W t σ H R :=
  ⟨K.Z, env, S, re, rs, mo _ _ _ _ _ _ (fun d S1 q H1 a => hc d S1 H1 q a) (fun x S1 q c dx H1 a r => he x S1 c dx H1 q a r) h⟩
theorem LA.of {t : TAd} (mo : MoE t) (re : RE K S H env σ) (rs : RS K S H) {C : List D → Sto → Prop} {E : EK} {R : List V → Hp → Prop} (h : t env S C E)
    (hc : ∀ d S1 v H1, C d S1 → Aft K S H S1 H1 → RpL K S1 H1 d v → R v H1) (he : ∀ x S1 c dx H1, E x S1 → Aft K S H S1 H1 → RX K S1 H1 x c dx → W c dx σ H1) : LA K.K W t σ H R :=
  ⟨K.Z, env, S, re, rs, mo _ _ _ _ _ _ (fun d S1 q v H1 a r => hc d S1 v H1 q a r) (fun x S1 q c dx H1 a r => he x S1 c dx H1 q a r) h⟩
theorem LS.of {t : TSd} (mo : MoS t) (re : RE K S H env σ) (rs : RS K S H) {N : Nd} {M : Ends} (h : t env S N) (hl : NdLe N (LN K S H W M)) : LS K.K W t M σ H :=
  ⟨K.Z, env, S, re, rs, mo _ _ _ _ hl h⟩
/-- exceptions behind a step -/
theorem PX.after {S1 : Sto} {H1 : Hp} (a : Aft K S H S1 H1) {x : Xc} {S2 : Sto} (h : PX K S H σ W x S2) : ∀ c dx H2, Aft K S1 H1 S2 H2 → RX K S2 H2 x c dx → W c dx σ H2 :=
  fun c dx H2 b r => h c dx H2 (a.trans b) r
theorem LN.after {S1 : Sto} {H1 : Hp} (a : Aft K S H S1 H1) (N : Ends) : NdLe (LN K S H W N) (LN K S1 H1 W N) :=
  ⟨fun e S2 h σ' H' b r => h σ' H' (a.trans b) r, fun d S2 h v H' b r => h v H' (a.trans b) r, fun e S2 h σ' H' b r => h σ' H' (a.trans b) r,
   fun e S2 h σ' H' b r => h σ' H' (a.trans b) r, fun x e S2 h c dx σ' H' b r q => h c dx σ' H' (a.trans b) r q⟩
end

/-! ### a list that is made out of sight -/
abbrev Kz.more (K : Kz) (p : Addr) : Kz := ⟨K.K, fun b => K.Z b ∨ b = p⟩
section
variable {K : Kz} {S : Sto} {H : Hp} {p : Addr}
mutual
theorem Rp.hide {xs : List V} (hp : H p = none) : ∀ (d : D) (v : V), Rp K S H d v → Rp (K.more p) S (upd H p (.lst xs)) d v
  | .non, _, h => by cases h; exact .non
  | .bl b, _, h => by cases h; exact .bl b
  | .int i, _, h => by cases h; exact .int i
  | .str x, _, h => by cases h; exact .str x
  | .tup ds, _, h => by
    cases h with
    | tup hs ha =>
      refine .tup ?_ (RpL.hide hp ds _ ha)
      rcases hs with (h | ⟨o, h⟩) | h
      · exact .inl (.inl (by rw [upd_ne (ne_of_none h hp)]; exact h))
      · exact .inl (.inr ⟨o, by rw [upd_ne (ne_of_none h hp)]; exact h⟩)
      · exact .inr h
  | .lst ds, _, h => by
    cases h with
    | lst hs hn hz ha =>
      rename_i a vs
      have ne : a ≠ p := by
        rcases hs with h | ⟨o, h⟩
        · exact ne_of_none h hp
        · exact ne_of_none h hp
      refine .lst ?_ hn (fun z => z.elim hz ne) (RpL.hide hp ds _ ha)
      rcases hs with h | ⟨o, h⟩
      · exact .inl (by rw [upd_ne ne]; exact h)
      · exact .inr ⟨o, by rw [upd_ne ne]; exact h⟩
    | lstK hs ha => exact .lstK hs (RpL.hide hp ds _ ha)
  | .ref a, _, h => by cases h; exact .ref a
  | .obj a, _, h => by cases h; exact .obj a
theorem RpL.hide {xs : List V} (hp : H p = none) : ∀ (ds : List D) (vs : List V), RpL K S H ds vs → RpL (K.more p) S (upd H p (.lst xs)) ds vs
  | [], _, h => by cases h; exact .nil
  | d :: ds, _, h => by
    cases h with
    | cons h1 h2 => exact .cons (Rp.hide hp d _ h1) (RpL.hide hp ds _ h2)
end
mutual
/-- the hidden list is written -/
theorem Rp.grow {xs ys : List V} (hp : H p = some (.lst ys)) : ∀ (d : D) (v : V), Rp (K.more p) S H d v → Rp (K.more p) S (upd H p (.lst xs)) d v
  | .non, _, h => by cases h; exact .non
  | .bl b, _, h => by cases h; exact .bl b
  | .int i, _, h => by cases h; exact .int i
  | .str x, _, h => by cases h; exact .str x
  | .tup ds, _, h => by
    cases h with
    | tup hs ha =>
      rename_i a vs
      refine .tup ?_ (RpL.grow hp ds _ ha)
      rcases hs with (h | ⟨o, h⟩) | h
      · exact .inl (.inl (by rw [upd_ne (ne_of h hp (by intro z; cases z))]; exact h))
      · exact .inl (.inr ⟨o, by rw [upd_ne (ne_of h hp (by intro z; cases z))]; exact h⟩)
      · exact .inr h
  | .lst ds, _, h => by
    cases h with
    | lst hs hn hz ha =>
      rename_i a vs
      have ne : a ≠ p := fun z => hz (.inr z)
      refine .lst ?_ hn hz (RpL.grow hp ds _ ha)
      rcases hs with h | ⟨o, h⟩
      · exact .inl (by rw [upd_ne ne]; exact h)
      · exact .inr ⟨o, by rw [upd_ne ne]; exact h⟩
    | lstK hs ha => exact .lstK hs (RpL.grow hp ds _ ha)
  | .ref a, _, h => by cases h; exact .ref a
  | .obj a, _, h => by cases h; exact .obj a
theorem RpL.grow {xs ys : List V} (hp : H p = some (.lst ys)) : ∀ (ds : List D) (vs : List V), RpL (K.more p) S H ds vs → RpL (K.more p) S (upd H p (.lst xs)) ds vs
  | [], _, h => by cases h; exact .nil
  | d :: ds, _, h => by
    cases h with
    | cons h1 h2 => exact .cons (Rp.grow hp d _ h1) (RpL.grow hp ds _ h2)
end
mutual
theorem Rp.show_ : ∀ (d : D) (v : V), Rp (K.more p) S H d v → Rp K S H d v
  | .non, _, h => by cases h; exact .non
  | .bl b, _, h => by cases h; exact .bl b
  | .int i, _, h => by cases h; exact .int i
  | .str x, _, h => by cases h; exact .str x
  | .tup ds, _, h => by
    cases h with
    | tup hs ha => exact .tup hs (RpL.show_ ds _ ha)
  | .lst ds, _, h => by
    cases h with
    | lst hs hn hz ha => exact .lst hs hn (fun z => hz (.inl z)) (RpL.show_ ds _ ha)
    | lstK hs ha => exact .lstK hs (RpL.show_ ds _ ha)
  | .ref a, _, h => by cases h; exact .ref a
  | .obj a, _, h => by cases h; exact .obj a
theorem RpL.show_ : ∀ (ds : List D) (vs : List V), RpL (K.more p) S H ds vs → RpL K S H ds vs
  | [], _, h => by cases h; exact .nil
  | d :: ds, _, h => by
    cases h with
    | cons h1 h2 => exact .cons (Rp.show_ d _ h1) (RpL.show_ ds _ h2)
end
mutual
/-- the list is told -/
theorem Rp.unhide {es : List D} : ∀ (d : D) (v : V), Rp (K.more p) S H d v → Rp K (sup S p es) H d v
  | .non, _, h => by cases h; exact .non
  | .bl b, _, h => by cases h; exact .bl b
  | .int i, _, h => by cases h; exact .int i
  | .str x, _, h => by cases h; exact .str x
  | .tup ds, _, h => by
    cases h with
    | tup hs ha => exact .tup hs (RpL.unhide ds _ ha)
  | .lst ds, _, h => by
    cases h with
    | lst hs hn hz ha => exact .lst hs (by rw [sup_ne fun z => hz (.inr z)]; exact hn) (fun z => hz (.inl z)) (RpL.unhide ds _ ha)
    | lstK hs ha => exact .lstK hs (RpL.unhide ds _ ha)
  | .ref a, _, h => by cases h; exact .ref a
  | .obj a, _, h => by cases h; exact .obj a
theorem RpL.unhide {es : List D} : ∀ (ds : List D) (vs : List V), RpL (K.more p) S H ds vs → RpL K (sup S p es) H ds vs
  | [], _, h => by cases h; exact .nil
  | d :: ds, _, h => by
    cases h with
    | cons h1 h2 => exact .cons (Rp.unhide d _ h1) (RpL.unhide ds _ h2)
end
theorem RS.hide {xs : List V} (rs : RS K S H) (hp : H p = none) : RS (K.more p) S (upd H p (.lst xs)) := by
  refine ⟨fun a ds e => ?_, fun b hb => ?_⟩
  · obtain ⟨vs, q, r⟩ := rs.at_ a ds e
    exact ⟨vs, by rw [upd_ne (ne_of_none q hp)]; exact q, RpL.hide hp _ _ r⟩
  · rcases hb with hb | rfl
    · obtain ⟨n, vs, q⟩ := rs.hid b hb
      exact ⟨n, vs, by rw [upd_ne (ne_of_none q hp)]; exact q⟩
    · exact ⟨rs.free hp, xs, upd_same⟩
theorem RS.grow {xs ys : List V} (rs : RS (K.more p) S H) (hp : H p = some (.lst ys)) : RS (K.more p) S (upd H p (.lst xs)) := by
  have np : S p = none := (rs.hid p (.inr rfl)).1
  refine ⟨fun a ds e => ?_, fun b hb => ?_⟩
  · obtain ⟨vs, q, r⟩ := rs.at_ a ds e
    have ne : a ≠ p := fun z => by rw [z, np] at e; cases e
    exact ⟨vs, by rw [upd_ne ne]; exact q, RpL.grow hp _ _ r⟩
  · obtain ⟨n, vs, q⟩ := rs.hid b hb
    by_cases hbp : b = p
    · subst hbp
      exact ⟨n, xs, upd_same⟩
    · exact ⟨n, vs, by rw [upd_ne hbp]; exact q⟩
theorem RS.show_ (rs : RS (K.more p) S H) : RS K S H := by
  refine ⟨fun a ds e => ?_, fun b hb => rs.hid b (.inl hb)⟩
  obtain ⟨vs, q, r⟩ := rs.at_ a ds e
  exact ⟨vs, q, RpL.show_ _ _ r⟩
theorem Rp.made {ds : List D} {vs : List V} (rs : RS (K.more p) S H) (hp : H p = some (.lst vs)) (hz : ¬ K.Z p) (r : RpL (K.more p) S H ds vs) : Rp K S H (.lst ds) (.ref p) :=
  .lst (.inl hp) (rs.hid p (.inr rfl)).1 hz (RpL.show_ _ _ r)
end
end Bl

namespace Bl
open PySem PySem.Spec PyProof.Rows L2

/-! ### where one stands -/
/-- a block's view: the slots that it sees, its locals, its cells; the module's and built-in names -/
structure Vw where
  vl : List Nat
  lo : List Nat
  ce : List Nat
  gs : List Str
/-- the names of a block by slot -/
structure Sc (N : List Str) (sc : Scope) (vw : Vw) : Prop where
  vis : ∀ i ∈ vw.vl, ∀ x, N[i]? = some x → Vis sc x ∧ (x == ("__debug__" : Str)) = false ∧ (x == ("__classdict__" : Str)) = false
  loc : ∀ i ∈ vw.lo, ∀ x, N[i]? = some x → sc.names.lookup x = some .local
  cel : ∀ i ∈ vw.ce, ∀ x, N[i]? = some x → sc.names.lookup x = some .cell
  gl : ∀ x ∈ vw.gs, sc.names.lookup x = some .globalImplicit ∧ x ≠ "__name__" ∧ (x == ("__debug__" : Str)) = false
def isLoc : Option NameKind → Bool
  | some .local => true
  | _ => false
def isCel : Option NameKind → Bool
  | some .cell => true
  | _ => false
def isVis : Option NameKind → Bool
  | some .local => true
  | some .cell => true
  | some .free => true
  | _ => false
def isGlo : Option NameKind → Bool
  | some .globalImplicit => true
  | _ => false
def scC (N : List Str) (sc : Scope) (vw : Vw) : Bool :=
  (vw.vl.all fun i => match N[i]? with
    | none => true
    | some x => isVis (sc.names.lookup x) && !(x == ("__debug__" : Str)) && !(x == ("__classdict__" : Str))) &&
  ((vw.lo.all fun i => match N[i]? with
    | none => true
    | some x => isLoc (sc.names.lookup x)) && (vw.ce.all fun i => match N[i]? with
    | none => true
    | some x => isCel (sc.names.lookup x))) &&
  (vw.gs.all fun x => isGlo (sc.names.lookup x) && decide (x ≠ "__name__") && !(x == ("__debug__" : Str)))
theorem scOf {N : List Str} {sc : Scope} {vw : Vw} (h : scC N sc vw = true) : Sc N sc vw := by
  unfold scC at h
  rw [Bool.and_eq_true, Bool.and_eq_true, Bool.and_eq_true, List.all_eq_true, List.all_eq_true, List.all_eq_true, List.all_eq_true] at h
  obtain ⟨⟨h1, h3, h4⟩, h2⟩ := h
  refine ⟨fun i hi x e => ?_, fun i hi x e => ?_, fun i hi x e => ?_, fun x hx => ?_⟩
  · have q := h1 i hi
    rw [e] at q
    simp only [Bool.and_eq_true, Bool.not_eq_true'] at q
    refine ⟨?_, q.1.2, q.2⟩
    have z := q.1.1
    unfold isVis at z
    unfold Vis
    split at z
    · exact .inl (by assumption)
    · exact .inr (.inl (by assumption))
    · exact .inr (.inr (by assumption))
    · cases z
  · have z := h3 i hi
    rw [e] at z
    dsimp only at z
    unfold isLoc at z
    split at z
    · assumption
    · cases z
  · have z := h4 i hi
    rw [e] at z
    dsimp only at z
    unfold isCel at z
    split at z
    · assumption
    · cases z
  · have q := h2 x hx
    simp only [Bool.and_eq_true, Bool.not_eq_true', decide_eq_true_eq] at q
    refine ⟨?_, q.1.2, q.2⟩
    have z := q.1.1
    unfold isGlo at z
    split at z
    · assumption
    · cases z

/-- what is told of the program and of the block -/
structure JC (P : Program) (w : World) (K : PySem.W.Frag) (mg : Str → Option Value) (base : Heap) (N : List Str) (sc : Scope) (vw : Vw) (k : Nat) (X : Cx) (W : WX) : Prop where
  prog : X.prog = P
  ww : X.w = w
  kk : X.K = K
  gg : X.mg = mg
  bb : X.base = base
  nn : X.N = N
  ss : X.env.scope = sc
  sC : Sc N sc vw
  nd : N.Nodup
  calm : X.calm = true
  room : Room k X.A
  tk : Takes X W
  kd : X.env.scope.kind = .function
/-- a def's own body -/
structure JD (P : Program) (w : World) (K : PySem.W.Frag) (mg : Str → Option Value) (base : Heap) (N : List Str) (sc : Scope) (vw : Vw) (k : Nat) (X : Cx) (W : WX) : Prop extends JC P w K mg base N sc vw k X W where
  po : PassesOwn (model X.prog X.w) X.A X.env X.xe
  fn : ∀ x, X.fn x = true
  hs : X.stack = X.env :: X.outer
  hf : X.env.frame = some X.env.locals

section
variable {P : Program} {w : World} {K : PySem.W.Frag} {mg : Str → Option Value} {base : Heap} {N : List Str} {sc : Scope} {vw : Vw} {k : Nat} {X : Cx} {W : WX}
theorem JC.gl (c : JC P w K mg base N sc vw k X W) {x : Str} (h : x ∈ vw.gs) : Gl X x := by
  show X.env.scope.names.lookup x = some .globalImplicit
  rw [c.ss]
  exact (c.sC.gl x h).1
end

/-! ### names, constants -/
def vr (i : Nat) : TEd := fun env S Q _ => match env[i]? with
  | some (some d) => Q d S
  | _ => False
def cn (d : D) : TEd := fun _ S Q _ => Q d S
section
variable {P : Program} {w : World} {K : PySem.W.Frag} {mg : Str → Option Value} {base : Heap} {N : List Str} {sc : Scope} {vw : Vw} {k : Nat} {X : Cx} {W : WX}
theorem moVr (i : Nat) : MoE (vr i) := fun env S Q Q' E E' h _ q => by
  unfold vr at q ⊢
  split at q
  · exact h _ _ q
  · exact q
theorem moCn (d : D) : MoE (cn d) := fun env S Q Q' E E' h _ q => h _ _ q
theorem jv (c : JC P w K mg base N sc vw k X W) (i : Nat) {x : Str} {pos : Pos} (hi : i ∈ vw.vl) (hN : N[i]? = some x) : JE X W (.Name x pos) (vr i) := by
  obtain ⟨v1, v2, v3⟩ := c.sC.vis i hi x hN
  refine ⟨PE.imp (pe_var (i := i) (by rw [c.nn]; exact hN) (by rw [c.ss]; exact v1) v2 v3) fun σ H Q h => ?_, moVr i⟩
  obtain ⟨Z, env, S, re, rs, q⟩ := h
  unfold vr at q
  split at q
  · rename_i d e
    obtain ⟨v, e1, r⟩ := re.at_ i d e
    exact ⟨v, e1, q v H (.refl rs) r⟩
  · exact q.elim
theorem LE.cn {W : WX} {d : D} {v : V} {σ : L2.St} {H : Hp} {Q : VK} (hr : ∀ Z S H, Rp ⟨K, Z⟩ S H d v) (h : LE K W (cn d) σ H Q) : Q v H := by
  obtain ⟨Z, env, S, re, rs, q⟩ := h
  exact q v H (.refl rs) (hr _ _ _)
theorem je_int {i : Int} {j : Nat} {pos : Pos} : JE X W (.Constant (.int i) j pos) (cn (.int i)) := ⟨PE.imp pe_int fun σ H Q h => LE.cn (fun _ _ _ => .int i) h, moCn _⟩
theorem je_bl {b : Bool} {j : Nat} {pos : Pos} : JE X W (.Constant (.bool b) j pos) (cn (.bl b)) := ⟨PE.imp pe_bl fun σ H Q h => LE.cn (fun _ _ _ => .bl b) h, moCn _⟩
theorem je_non {j : Nat} {pos : Pos} : JE X W (.Constant .none j pos) (cn .non) := ⟨PE.imp pe_non fun σ H Q h => LE.cn (fun _ _ _ => .non) h, moCn _⟩
theorem je_str {x : Str} {j : Nat} {pos : Pos} : JE X W (.Constant (.str x) j pos) (cn (.str x)) := ⟨PE.imp pe_str fun σ H Q h => LE.cn (fun _ _ _ => .str x) h, moCn _⟩
/-- a module's constant -/
structure GC (K : PySem.W.Frag) (mg : Str → Option Value) (x : Str) (d : D) : Prop where
  ex : ∃ u v, mg x = some u ∧ RelV v u ∧ ∀ Z S H, Rp ⟨K, Z⟩ S H d v
theorem je_glob (c : JC P w K mg base N sc vw k X W) {x : Str} {pos : Pos} {d : D} (hx : x ∈ vw.gs) (g : GC K mg x d) : JE X W (.Name x pos) (cn d) := by
  obtain ⟨u, v, e, r, q⟩ := g.ex
  have hk := c.kk
  subst hk
  exact ⟨PE.imp (pe_glob (c.gl hx) (by rw [c.gg]; exact e) r (c.sC.gl x hx).2.2) fun σ H Q h => LE.cn q h, moCn _⟩
end

/-! ### two operands -/
abbrev F2 := D → D → Sto → DK → Prop
def MoF2 (f : F2) : Prop := ∀ x y S (Q Q' : DK), (∀ d S, Q d S → Q' d S) → f x y S Q → f x y S Q'
def dTwo (ta tb : TEd) (f : F2) : TEd := fun env S Q E => ta env S (fun x S1 => tb env S1 (fun y S2 => f x y S2 Q) E) E
theorem moTwo {ta tb : TEd} {f : F2} (ha : MoE ta) (hb : MoE tb) (hf : MoF2 f) : MoE (dTwo ta tb f) := fun env S Q Q' E E' h he q =>
  ha _ _ _ _ _ _ (fun x S1 q1 => hb _ _ _ _ _ _ (fun y S2 q2 => hf _ _ _ _ _ h q2) he q1) he q
/-- what is wanted behind, from a state -/
abbrev PQ (K : Kz) (S : Sto) (H : Hp) (Q : VK) : DK := fun d S' => ∀ v H', Aft K S H S' H' → Rp K S' H' d v → Q v H'
theorem PQ.after {K : Kz} {S S1 : Sto} {H H1 : Hp} (a : Aft K S H S1 H1) {Q : VK} {d : D} {S2 : Sto} (h : PQ K S H Q d S2) : PQ K S1 H1 Q d S2 := fun v H' b r => h v H' (a.trans b) r
theorem two {K : PySem.W.Frag} {W : WX} {ta tb : TEd} {f : F2} (ha : MoE ta) (hb : MoE tb) (hf : MoF2 f) {σ : L2.St} {H : Hp} {Q : VK} (h : LE K W (dTwo ta tb f) σ H Q) :
    LE K W ta σ H fun x H1 => LE K W tb σ H1 fun y H2 => ∃ Z S dx dy, RS ⟨K, Z⟩ S H2 ∧ Rp ⟨K, Z⟩ S H2 dx x ∧ Rp ⟨K, Z⟩ S H2 dy y ∧ f dx dy S (PQ ⟨K, Z⟩ S H2 Q) := by
  obtain ⟨Z, env, S, re, rs, q⟩ := h
  refine LE.of ha re rs q (fun dx S1 x H1 q1 a1 r1 => ?_) fun x S1 c dx H1 q1 a1 r1 => q1 c dx H1 a1 r1
  refine LE.of hb (re.step a1.st rs) a1.rs q1 (fun dy S2 y H2 q2 a2 r2 => ?_) fun x S2 c dx H2 q2 a2 r2 => q2 c dx H2 (a1.trans a2) r2
  exact ⟨Z, S2, dx, dy, a2.rs, Rp.step a2.st a1.rs _ _ r1, r2, hf _ _ _ _ _ (fun d S3 q3 => PQ.after (a1.trans a2) q3) q2⟩

/-- an operator of two data -/
structure OpD (X : Cx) (g : Value → Value → Sem Value) (f : F2) : Prop where
  mo : MoF2 f
  run : ∀ (pins : List (Addr × Obj)) (s : Shared) (σ : L2.St) (H : Hp) (x y : V) (v u : Value) (Q : VK) (Z : Addr → Prop) (S : Sto) (dx dy : D), Inv X pins σ H s → RelV x v → RelV y u → RS ⟨X.K, Z⟩ S H → Rp ⟨X.K, Z⟩ S H dx x → Rp ⟨X.K, Z⟩ S H dy y →
    f dx dy S (PQ ⟨X.K, Z⟩ S H Q) → wpAny (model X.prog X.w) X.A (g v u) (EP X pins σ Q) X.xe s
section
variable {X : Cx} {W : WX} {a b : Expr} {ta tb : TEd} {pos : Pos}
theorem je_op {op : Operator} {f : F2} (ho : OpD X (binaryOp op) f) (ha : JE X W a ta) (hb : JE X W b tb) : JE X W (.BinOp a op b pos) (dTwo ta tb f) := by
  refine ⟨⟨fun pins s σ H Q I h => ?_⟩, moTwo ha.mo hb.mo ho.mo⟩
  refine wpAny_BinOp (bin ha.pe hb.pe I (two ha.mo hb.mo ho.mo h) fun v u s2 x y H2 I2 rx ry q => ?_)
  obtain ⟨Z, S, dx, dy, rs, r1, r2, q⟩ := q
  exact ho.run pins s2 σ H2 x y v u Q Z S dx dy I2 rx ry rs r1 r2 q
theorem je_cmp {op : CmpOp} {f : F2} (ho : OpD X (compareOp op) f) (ha : JE X W a ta) (hb : JE X W b tb) (hm : behindInMarks op b = false) : JE X W (.Compare a [op] [b] pos) (dTwo ta tb f) := by
  refine ⟨⟨fun pins s σ H Q I h => ?_⟩, moTwo ha.mo hb.mo ho.mo⟩
  refine wpAny_Compare1 (bin ha.pe hb.pe I (two ha.mo hb.mo ho.mo h) fun v u s2 x y H2 I2 rx ry q => ?_) hm
  obtain ⟨Z, S, dx, dy, rs, r1, r2, q⟩ := q
  exact ho.run pins s2 σ H2 x y v u Q Z S dx dy I2 rx ry rs r1 r2 q
end

/-! ### tests -/
/-- a value that is a truth, as a test -/
def tbl (t : TEd) : TTd := fun env S Q E => t env S (fun d S' => match d with | .bl b => Q b S' | _ => False) E
theorem moTbl {t : TEd} (h : MoE t) : MoE (tbl t) := fun env S Q Q' E E' hq he q => h _ _ _ _ _ _ (fun d S1 q1 => by
  cases d <;> first | exact hq _ _ q1 | exact q1) he q
theorem tblV {K : PySem.W.Frag} {W : WX} {t : TEd} (mo : MoE t) {σ : L2.St} {H : Hp} {Q : Bool → Hp → Prop} (h : LT K W (tbl t) σ H Q) : LE K W t σ H fun x H1 => ∃ c, x = .bl c ∧ Q c H1 := by
  obtain ⟨Z, env, S, re, rs, q⟩ := h
  refine LE.of mo re rs q (fun d S1 x H1 q1 a1 r1 => ?_) fun x S1 c dx H1 q1 a1 r1 => q1 c dx H1 a1 r1
  cases d <;> first | exact q1.elim | skip
  rename_i b
  cases r1
  exact ⟨b, rfl, q1 H1 a1⟩
/-- any value, by its truth -/
def truD : D → Sto → (Bool → Sto → Prop) → Prop := fun d S Q => match d with
  | .non => Q false S
  | .bl b => Q b S
  | .int i => Q (i != 0) S
  | .str x => x.length ≤ sizeLine ∧ Q ((x.length : Int) != 0) S
  | .tup ds => Q (!ds.isEmpty) S
  | .lst ds => Q (!ds.isEmpty) S
  | .ref a => match S a with | some ds => Q (!ds.isEmpty) S | none => False
  | .obj _ => False
def ttr (t : TEd) : TTd := fun env S Q E => t env S (fun d S' => truD d S' Q) E
theorem moTruD {d : D} {S : Sto} {Q Q' : Bool → Sto → Prop} (h : ∀ b S, Q b S → Q' b S) (q : truD d S Q) : truD d S Q' := by
  unfold truD at q ⊢
  cases d <;> first
    | exact h _ _ q
    | exact ⟨q.1, h _ _ q.2⟩
    | (dsimp only at q ⊢; split at q <;> first | exact h _ _ q | exact q.elim)
    | exact q
theorem moTtr {t : TEd} (h : MoE t) : MoE (ttr t) := fun env S Q Q' E E' hq he q => h _ _ _ _ _ _ (fun d S1 q1 => moTruD hq q1) he q
theorem isEmpty_rpl {K : Kz} {S : Sto} {H : Hp} {ds : List D} {vs : List V} (r : RpL K S H ds vs) : ds.isEmpty = vs.isEmpty := by
  cases r <;> rfl
theorem SqL.ofK {K : PySem.W.Frag} {H : Hp} {a : Addr} {vs : List V} (h : KL K a vs) : SqL K H a vs := .inr h
theorem truV {K : Kz} {S : Sto} {H : Hp} {d : D} {v : V} (rs : RS K S H) (r : Rp K S H d v) {Q : Bool → Hp → Prop} (q : truD d S fun b S' => ∀ H', Aft K S H S' H' → Q b H') : ∃ k, TruV K.K v H k ∧ Q k H := by
  have a0 : Aft K S H S H := .refl rs
  cases r with
  | non => exact ⟨false, rfl, q H a0⟩
  | bl b => exact ⟨b, rfl, q H a0⟩
  | int i => exact ⟨_, rfl, q H a0⟩
  | str x => exact ⟨_, ⟨q.1, rfl⟩, q.2 H a0⟩
  | tup hs ha => exact ⟨_, .inr (.inl ⟨_, hs, rfl⟩), by rw [← isEmpty_rpl ha]; exact q H a0⟩
  | lst hs hn hz ha => exact ⟨_, .inl ⟨_, .inl hs, rfl⟩, by rw [← isEmpty_rpl ha]; exact q H a0⟩
  | lstK hs ha => exact ⟨_, .inl ⟨_, SqL.ofK hs, rfl⟩, by rw [← isEmpty_rpl ha]; exact q H a0⟩
  | ref a =>
    unfold truD at q
    dsimp only at q
    split at q
    · rename_i ds e
      obtain ⟨vs, e1, r1⟩ := rs.at_ a ds e
      exact ⟨_, .inl ⟨_, SqL.of e1, rfl⟩, by rw [← isEmpty_rpl r1]; exact q H a0⟩
    · exact q.elim
  | obj a => exact q.elim
def tAndD (t u : TTd) : TTd := fun env S Q E => t env S (fun c S1 => if c = true then u env S1 Q E else Q false S1) E
def tOrD (t u : TTd) : TTd := fun env S Q E => t env S (fun c S1 => if c = true then Q true S1 else u env S1 Q E) E
def tNotD (t : TTd) : TTd := fun env S Q E => t env S (fun c S1 => Q (!c) S1) E
/-- and, or, not, a comparison as values: truths -/
def vOf (t : TTd) : TEd := fun env S Q E => t env S (fun c S1 => Q (.bl c) S1) E
def eIf (t : TTd) (ta tb : TEd) : TEd := fun env S Q E => t env S (fun c S1 => if c = true then ta env S1 Q E else tb env S1 Q E) E
section
variable {X : Cx} {W : WX} {a b : Expr} {ta tb : TEd} {pos : Pos} {t u : TTd} {rest : List Expr}
theorem jt_tru (h : JE X W a ta) (he : ∀ whole, isTrue a X.env whole = (do let v ← whole; standAt a.pos; holding [v] (truthy v)) := by intro _; rfl) : JT X W a (ttr ta) := by
  refine ⟨PT.imp (pt_truth h.pe he) fun σ H Q q => ?_, moTtr h.mo⟩
  obtain ⟨Z, env, S, re, rs, q⟩ := q
  refine LE.of h.mo re rs q (fun d S1 x H1 q1 a1 r1 => ?_) fun x S1 c dx H1 q1 a1 r1 => q1 c dx H1 a1 r1
  exact truV a1.rs r1 (moTruD (fun b S2 q2 H2 a2 => q2 H2 (a1.trans a2)) q1)
theorem jt_cmp {op : CmpOp} {f : F2} (ho : OpD X (compareOp op) f) (ha : JE X W a ta) (hb : JE X W b tb) (hm : behindInMarks op b = false) : JT X W (.Compare a [op] [b] pos) (tbl (dTwo ta tb f)) := by
  refine ⟨⟨fun pins s σ H Q I h => ?_⟩, moTbl (moTwo ha.mo hb.mo ho.mo)⟩
  refine wpAny_isTrue_Compare1 (thn (bin ha.pe hb.pe I (two ha.mo hb.mo ho.mo (tblV (moTwo ha.mo hb.mo ho.mo) h)) fun v u s2 x y H2 I2 rx ry q => ?_) fun v s1 h1 => thn h1 fun u s2 h2 => thn h2 fun c s3 z => z) hm
  obtain ⟨Z, S, dx, dy, rs, r1, r2, q⟩ := q
  refine thn (ho.run pins s2 σ H2 x y v u _ Z S dx dy I2 rx ry rs r1 r2 q) fun c s3 ⟨x, H1, I1, r1, q1⟩ => ?_
  obtain ⟨d, rfl, q⟩ := q1
  cases r1
  exact wpAny_truthy_bool ⟨H1, I1, q⟩
theorem jt_w (h : JW X W a t) : JT X W a t := ⟨h.pw.pt, h.mo⟩
theorem moAndD (h : MoE t) (h2 : MoE u) : MoE (tAndD t u) := fun env S Q Q' E E' hq he q => h _ _ _ _ _ _ (fun c S1 q1 => by
  cases c
  · exact hq _ _ q1
  · exact h2 _ _ _ _ _ _ hq he q1) he q
theorem moOrD (h : MoE t) (h2 : MoE u) : MoE (tOrD t u) := fun env S Q Q' E E' hq he q => h _ _ _ _ _ _ (fun c S1 q1 => by
  cases c
  · exact h2 _ _ _ _ _ _ hq he q1
  · exact hq _ _ q1) he q
theorem moNotD (h : MoE t) : MoE (tNotD t) := fun env S Q Q' E E' hq he q => h _ _ _ _ _ _ (fun c S1 q1 => hq _ _ q1) he q
theorem moVOf (h : MoE t) : MoE (vOf t) := fun env S Q Q' E E' hq he q => h _ _ _ _ _ _ (fun c S1 q1 => hq _ _ q1) he q
theorem moEIf (h : MoE t) (ha : MoE ta) (hb : MoE tb) : MoE (eIf t ta tb) := fun env S Q Q' E E' hq he q => h _ _ _ _ _ _ (fun c S1 q1 => by
  cases c
  · exact hb _ _ _ _ _ _ hq he q1
  · exact ha _ _ _ _ _ _ hq he q1) he q
theorem jw_and1 (ha : JT X W a t) : JW X W (.BoolOp .And [a] pos) t := ⟨pw_and1 ha.pt, ha.mo⟩
theorem jw_or1 (ha : JT X W a t) : JW X W (.BoolOp .Or [a] pos) t := ⟨pw_or1 ha.pt, ha.mo⟩
theorem jw_and (ha : JT X W a t) (hb : JW X W (.BoolOp .And (b :: rest) pos) u) : JW X W (.BoolOp .And (a :: b :: rest) pos) (tAndD t u) := by
  refine ⟨PW.imp (pw_and ha.pt hb.pw) fun σ H Q h => ?_, moAndD ha.mo hb.mo⟩
  obtain ⟨Z, env, S, re, rs, q⟩ := h
  refine LT.of ha.mo re rs q (fun c S1 H1 q1 a1 => ?_) fun x S1 c dx H1 q1 a1 r1 => q1 c dx H1 a1 r1
  cases c with
  | false => exact iteF (q1 H1 a1)
  | true => exact iteT (LT.of hb.mo (re.step a1.st rs) a1.rs q1 (fun c2 S2 H2 q2 a2 => q2 H2 (a1.trans a2)) fun x S2 c dx H2 q2 a2 r2 => q2 c dx H2 (a1.trans a2) r2)
theorem jw_or (ha : JT X W a t) (hb : JW X W (.BoolOp .Or (b :: rest) pos) u) : JW X W (.BoolOp .Or (a :: b :: rest) pos) (tOrD t u) := by
  refine ⟨PW.imp (pw_or ha.pt hb.pw) fun σ H Q h => ?_, moOrD ha.mo hb.mo⟩
  obtain ⟨Z, env, S, re, rs, q⟩ := h
  refine LT.of ha.mo re rs q (fun c S1 H1 q1 a1 => ?_) fun x S1 c dx H1 q1 a1 r1 => q1 c dx H1 a1 r1
  cases c with
  | true => exact iteT (q1 H1 a1)
  | false => exact iteF (LT.of hb.mo (re.step a1.st rs) a1.rs q1 (fun c2 S2 H2 q2 a2 => q2 H2 (a1.trans a2)) fun x S2 c dx H2 q2 a2 r2 => q2 c dx H2 (a1.trans a2) r2)
theorem jt_not (ha : JT X W a t) : JT X W (.UnaryOp .Not a pos) (tNotD t) := by
  refine ⟨PT.imp (pt_not ha.pt) fun σ H Q h => ?_, moNotD ha.mo⟩
  obtain ⟨Z, env, S, re, rs, q⟩ := h
  exact LT.of ha.mo re rs q (fun c S1 H1 q1 a1 => q1 H1 a1) fun x S1 c dx H1 q1 a1 r1 => q1 c dx H1 a1 r1
theorem je_ifExp {c : Expr} (hc : JT X W c t) (ha : JE X W a ta) (hb : JE X W b tb) : JE X W (.IfExp c a b pos) (eIf t ta tb) := by
  refine ⟨PE.imp (pe_ifExp hc.pt ha.pe hb.pe) fun σ H Q h => ?_, moEIf hc.mo ha.mo hb.mo⟩
  obtain ⟨Z, env, S, re, rs, q⟩ := h
  refine LT.of hc.mo re rs q (fun c S1 H1 q1 a1 => ?_) fun x S1 c dx H1 q1 a1 r1 => q1 c dx H1 a1 r1
  cases c with
  | true => exact iteT (LE.of ha.mo (re.step a1.st rs) a1.rs q1 (fun d S2 v H2 q2 a2 r2 => q2 v H2 (a1.trans a2) r2) fun x S2 c dx H2 q2 a2 r2 => q2 c dx H2 (a1.trans a2) r2)
  | false => exact iteF (LE.of hb.mo (re.step a1.st rs) a1.rs q1 (fun d S2 v H2 q2 a2 r2 => q2 v H2 (a1.trans a2) r2) fun x S2 c dx H2 q2 a2 r2 => q2 c dx H2 (a1.trans a2) r2)
/-! truths as values -/
theorem je_one {op : BoolOp} (h : JE X W a ta) : JE X W (.BoolOp op [a] pos) ta := ⟨pe_one h.pe, h.mo⟩
theorem je_and (ha : JE X W a ta) (hb : JE X W (.BoolOp .And (b :: rest) pos) tb) : JE X W (.BoolOp .And (a :: b :: rest) pos) (eIf (tbl ta) tb (cn (.bl false))) := by
  refine ⟨PE.imp (pe_and ha.pe hb.pe) fun σ H Q h => ?_, moEIf (moTbl ha.mo) hb.mo (moCn _)⟩
  obtain ⟨Z, env, S, re, rs, q⟩ := h
  refine LE.of ha.mo re rs q (fun d S1 x H1 q1 a1 r1 => ?_) fun x S1 c dx H1 q1 a1 r1 => q1 c dx H1 a1 r1
  cases d <;> first | exact q1.elim | skip
  rename_i c
  cases r1
  refine ⟨c, rfl, ?_⟩
  cases c with
  | true => exact iteT (LE.of hb.mo (re.step a1.st rs) a1.rs q1 (fun d S2 v H2 q2 a2 r2 => q2 v H2 (a1.trans a2) r2) fun x S2 c dx H2 q2 a2 r2 => q2 c dx H2 (a1.trans a2) r2)
  | false => exact iteF (q1 _ H1 a1 (.bl false))
def vNot (ta : TEd) : TEd := vOf (tNotD (tbl ta))
theorem je_not (ha : JE X W a ta) : JE X W (.UnaryOp .Not a pos) (vNot ta) := by
  refine ⟨PE.imp (pe_not ha.pe) fun σ H Q h => ?_, moVOf (moNotD (moTbl ha.mo))⟩
  obtain ⟨Z, env, S, re, rs, q⟩ := h
  refine LE.of ha.mo re rs q (fun d S1 x H1 q1 a1 r1 => ?_) fun x S1 c dx H1 q1 a1 r1 => q1 c dx H1 a1 r1
  cases d <;> first | exact q1.elim | skip
  rename_i c
  cases r1
  exact ⟨c, rfl, q1 _ H1 a1 (.bl _)⟩
end

/-! ### whole numbers -/
def CMul' (i j : Int) : Prop := i.natAbs.log2 + j.natAbs.log2 < 1000000
def CDiv' (j : Int) : Prop := j ≠ 0 ∧ j.natAbs.log2 < 9000
def fAdd : F2 := fun x y S Q => match x, y with
  | .int i, .int j => Q (.int (i + j)) S
  | .str i, .str j => i.length + j.length ≤ sizeLine ∧ Q (.str (i ++ j)) S
  | .tup a, .tup b => a.length + b.length ≤ sizeLine ∧ Q (.tup (a ++ b)) S
  | _, _ => False
def fSub : F2 := fun x y S Q => match x, y with
  | .int i, .int j => Q (.int (i - j)) S
  | _, _ => False
def fMul : F2 := fun x y S Q => match x, y with
  | .int i, .int j => CMul' i j ∧ Q (.int (i * j)) S
  | _, _ => False
def fDiv : F2 := fun x y S Q => match x, y with
  | .int i, .int j => CDiv' j ∧ Q (.int (i.fdiv j)) S
  | _, _ => False
def fMod : F2 := fun x y S Q => match x, y with
  | .int i, .int j => j ≠ 0 ∧ Q (.int (i.fmod j)) S
  | _, _ => False
def fPow : F2 := fun x y S Q => match x, y with
  | .int i, .int j => 0 ≤ j ∧ (Builtin.Int.intBits i : Int) * j ≤ 2 ^ 27 ∧ Q (.int (i ^ j.toNat)) S
  | _, _ => False
def fShl : F2 := fun x y S Q => match x, y with
  | .int i, .int j => (0 ≤ j ∧ j ≤ 1000000 ∧ i.natAbs < 2 ^ 64) ∧ Q (.int (i * 2 ^ j.toNat)) S
  | _, _ => False
def fLt : F2 := fun x y S Q => match x, y with
  | .int i, .int j => Q (.bl (decide (i < j))) S
  | _, _ => False
def fLe : F2 := fun x y S Q => match x, y with
  | .int i, .int j => Q (.bl (decide (i ≤ j))) S
  | _, _ => False
def fGt : F2 := fun x y S Q => match x, y with
  | .int i, .int j => Q (.bl (decide (j < i))) S
  | _, _ => False
def fGe : F2 := fun x y S Q => match x, y with
  | .int i, .int j => Q (.bl (decide (j ≤ i))) S
  | _, _ => False
theorem moAdd : MoF2 fAdd := by (intro x y S Q Q' h q; unfold fAdd at q ⊢; split at q <;> first | exact h _ _ q | exact ⟨q.1, h _ _ q.2⟩ | exact ⟨q.1, q.2.1, h _ _ q.2.2⟩ | exact q.elim)
theorem moSub : MoF2 fSub := by (intro x y S Q Q' h q; unfold fSub at q ⊢; split at q <;> first | exact h _ _ q | exact ⟨q.1, h _ _ q.2⟩ | exact ⟨q.1, q.2.1, h _ _ q.2.2⟩ | exact q.elim)
theorem moMul : MoF2 fMul := by (intro x y S Q Q' h q; unfold fMul at q ⊢; split at q <;> first | exact h _ _ q | exact ⟨q.1, h _ _ q.2⟩ | exact ⟨q.1, q.2.1, h _ _ q.2.2⟩ | exact q.elim)
theorem moDiv : MoF2 fDiv := by (intro x y S Q Q' h q; unfold fDiv at q ⊢; split at q <;> first | exact h _ _ q | exact ⟨q.1, h _ _ q.2⟩ | exact ⟨q.1, q.2.1, h _ _ q.2.2⟩ | exact q.elim)
theorem moMod : MoF2 fMod := by (intro x y S Q Q' h q; unfold fMod at q ⊢; split at q <;> first | exact h _ _ q | exact ⟨q.1, h _ _ q.2⟩ | exact ⟨q.1, q.2.1, h _ _ q.2.2⟩ | exact q.elim)
theorem moPow : MoF2 fPow := by (intro x y S Q Q' h q; unfold fPow at q ⊢; split at q <;> first | exact h _ _ q | exact ⟨q.1, h _ _ q.2⟩ | exact ⟨q.1, q.2.1, h _ _ q.2.2⟩ | exact q.elim)
theorem moShl : MoF2 fShl := by (intro x y S Q Q' h q; unfold fShl at q ⊢; split at q <;> first | exact h _ _ q | exact ⟨q.1, h _ _ q.2⟩ | exact ⟨q.1, q.2.1, h _ _ q.2.2⟩ | exact q.elim)
theorem moLt : MoF2 fLt := by (intro x y S Q Q' h q; unfold fLt at q ⊢; split at q <;> first | exact h _ _ q | exact ⟨q.1, h _ _ q.2⟩ | exact ⟨q.1, q.2.1, h _ _ q.2.2⟩ | exact q.elim)
theorem moLe : MoF2 fLe := by (intro x y S Q Q' h q; unfold fLe at q ⊢; split at q <;> first | exact h _ _ q | exact ⟨q.1, h _ _ q.2⟩ | exact ⟨q.1, q.2.1, h _ _ q.2.2⟩ | exact q.elim)
theorem moGt : MoF2 fGt := by (intro x y S Q Q' h q; unfold fGt at q ⊢; split at q <;> first | exact h _ _ q | exact ⟨q.1, h _ _ q.2⟩ | exact ⟨q.1, q.2.1, h _ _ q.2.2⟩ | exact q.elim)
theorem moGe : MoF2 fGe := by (intro x y S Q Q' h q; unfold fGe at q ⊢; split at q <;> first | exact h _ _ q | exact ⟨q.1, h _ _ q.2⟩ | exact ⟨q.1, q.2.1, h _ _ q.2.2⟩ | exact q.elim)
theorem RS.newN {K : Kz} {S : Sto} {H : Hp} {p : Addr} {o : HO} (rs : RS K S H) (hp : H p = none) : Aft K S H S (upd H p o) := by
  have st : Step S H S (upd H p o) := fun b u h n => ⟨n, by rw [upd_ne (ne_of_none h hp)]; exact h⟩
  refine ⟨st, fun a es e => ?_, fun b hb => ?_⟩
  · obtain ⟨ws, q, r⟩ := rs.at_ a es e
    exact ⟨ws, by rw [upd_ne (ne_of_none q hp)]; exact q, RpL.step st rs _ _ r⟩
  · obtain ⟨n, vs, q⟩ := rs.hid b hb
    exact ⟨n, vs, by rw [upd_ne (ne_of_none q hp)]; exact q⟩
theorem RS.nz {K : Kz} {S : Sto} {H : Hp} {p : Addr} (rs : RS K S H) (hp : H p = none) : ¬ K.Z p := fun z => by
  obtain ⟨_, vs, q⟩ := rs.hid p z
  rw [hp] at q
  cases q
theorem Rp.newT {K : Kz} {S : Sto} {H : Hp} {ds : List D} {vs : List V} {p : Addr} (rs : RS K S H) (hp : H p = none) (r : RpL K S H ds vs) : Aft K S H S (upd H p (.tup vs)) ∧ Rp K S (upd H p (.tup vs)) (.tup ds) (.ref p) := by
  have a := rs.newN (o := .tup vs) hp
  exact ⟨a, .tup (SqT.of upd_same) (RpL.step a.st rs _ _ r)⟩
theorem Rp.newL {K : Kz} {S : Sto} {H : Hp} {ds : List D} {vs : List V} {p : Addr} (rs : RS K S H) (hp : H p = none) (r : RpL K S H ds vs) : Aft K S H S (upd H p (.lst vs)) ∧ Rp K S (upd H p (.lst vs)) (.lst ds) (.ref p) := by
  have a := rs.newN (o := .lst vs) hp
  exact ⟨a, .lst (.inl upd_same) (rs.free hp) (rs.nz hp) (RpL.step a.st rs _ _ r)⟩
/-- a grown list's items are told anew -/
theorem RS.tell {K : Kz} {S S' : Sto} {H H' : Hp} {ds : List D} {vs : List V} {p : Addr} (rs : RS K S H) (st : Step S H (sup S p ds) (upd H p (.lst vs))) (nz : ¬ K.Z p) (r : RpL K S H ds vs) : Aft K S H (sup S p ds) (upd H p (.lst vs)) := by
  refine ⟨st, fun a es e => ?_, fun b hb => ?_⟩
  · by_cases ha : a = p
    · subst ha
      rw [sup_same] at e
      cases e
      exact ⟨vs, upd_same, RpL.step st rs _ _ r⟩
    · rw [sup_ne ha] at e
      obtain ⟨ws, q, r⟩ := rs.at_ a es e
      exact ⟨ws, by rw [upd_ne ha]; exact q, RpL.step st rs _ _ r⟩
  · have ne : b ≠ p := fun z => nz (z ▸ hb)
    obtain ⟨n, ws, q⟩ := rs.hid b hb
    exact ⟨by rw [sup_ne ne]; exact n, ws, by rw [upd_ne ne]; exact q⟩
/-- a list that is to be grown -/
theorem Rp.newR {K : Kz} {S : Sto} {H : Hp} {ds : List D} {vs : List V} {p : Addr} (rs : RS K S H) (hp : H p = none) (r : RpL K S H ds vs) : Aft K S H (sup S p ds) (upd H p (.lst vs)) :=
  rs.tell (S' := S) (H' := H) (fun b o h n => ⟨by rw [sup_ne (ne_of_none h hp)]; exact n, by rw [upd_ne (ne_of_none h hp)]; exact h⟩) (rs.nz hp) r
theorem RS.nzS {K : Kz} {S : Sto} {H : Hp} {p : Addr} {es : List D} (rs : RS K S H) (hp : S p = some es) : ¬ K.Z p := fun z => by
  have n := (rs.hid p z).1
  rw [hp] at n
  cases n
/-- a grown list is written -/
theorem Rp.putR {K : Kz} {S : Sto} {H : Hp} {ds es : List D} {vs : List V} {p : Addr} (rs : RS K S H) (hp : S p = some es) (r : RpL K S H ds vs) : Aft K S H (sup S p ds) (upd H p (.lst vs)) := by
  have np : ∀ b, S b = none → b ≠ p := fun b n e => by rw [e, hp] at n; cases n
  exact rs.tell (S' := S) (H' := H) (fun b o h n => ⟨by rw [sup_ne (np b n)]; exact n, by rw [upd_ne (np b n)]; exact h⟩) (rs.nzS hp) r
/-- a grown list is grown no more -/
theorem Rp.frz {K : Kz} {S : Sto} {H : Hp} {ds : List D} {p : Addr} (rs : RS K S H) (hp : S p = some ds) : Aft K S H (sdel S p) H ∧ Rp K (sdel S p) H (.lst ds) (.ref p) := by
  have np : ∀ b, S b = none → b ≠ p := fun b n e => by rw [e, hp] at n; cases n
  have st : Step S H (sdel S p) H := fun b o h n => ⟨by rw [sdel_ne (np b n)]; exact n, h⟩
  obtain ⟨vs, e, r⟩ := rs.at_ p ds hp
  refine ⟨⟨st, fun a es q => ?_, fun b hb => ?_⟩, .lst (.inl e) sdel_same (rs.nzS hp) (RpL.step st rs _ _ r)⟩
  · by_cases ha : a = p
    · subst ha
      rw [sdel_same] at q
      cases q
    · rw [sdel_ne ha] at q
      obtain ⟨ws, z, r⟩ := rs.at_ a es q
      exact ⟨ws, z, RpL.step st rs _ _ r⟩
  · obtain ⟨n, q⟩ := rs.hid b hb
    exact ⟨by rw [sdel_ne (np b n)]; exact n, q⟩
section
variable {X : Cx}
theorem opD_add : OpD X (binaryOp .Add) fAdd := by
  refine ⟨moAdd, fun pins s σ H x y v u Q Z S dx dy I rx ry rs r1 r2 h => ?_⟩
  cases r1 with
  | int i =>
    cases r2 with
    | int j => exact op_add pins s σ H _ _ v u Q I rx ry ⟨i, j, rfl, rfl, h _ H (.refl rs) (.int _)⟩
    | _ => exact h.elim
  | str i =>
    cases r2 with
    | str j => exact op_add_str pins s σ H _ _ v u Q I rx ry ⟨i, j, rfl, rfl, h.1, h.2 _ H (.refl rs) (.str _)⟩
    | _ => exact h.elim
  | tup hs ha =>
    cases r2 with
    | tup hs2 ha2 =>
      rename_i a xs ds b ys es
      have l1 := ha.length
      have l2 := ha2.length
      refine op_catA pins s σ H _ _ v u Q I rx ry ⟨a, b, xs, ys, rfl, rfl, hs, hs2, by rw [← l1, ← l2]; exact h.1, fun e => ?_, fun _ e => ?_, fun _ _ p hp => ?_⟩
      · subst e
        cases ha
        exact h.2 _ H (.refl rs) (.tup hs2 ha2)
      · subst e
        cases ha2
        exact h.2 _ H (.refl rs) (by rw [List.append_nil]; exact .tup hs ha)
      · obtain ⟨a1, r⟩ := Rp.newT rs hp (ha.append ha2)
        exact h.2 _ _ a1 r
    | _ => exact h.elim
  | _ => cases r2 <;> exact h.elim
theorem opD_sub : OpD X (binaryOp .Sub) fSub := by
  refine ⟨moSub, fun pins s σ H x y v u Q Z S dx dy I rx ry rs r1 r2 h => ?_⟩
  cases r1 <;> cases r2 <;> first | exact h.elim | skip
  exact op_sub pins s σ H _ _ v u Q I rx ry ⟨_, _, rfl, rfl, h _ H (.refl rs) (.int _)⟩
theorem opD_mul : OpD X (binaryOp .Mult) fMul := by
  refine ⟨moMul, fun pins s σ H x y v u Q Z S dx dy I rx ry rs r1 r2 h => ?_⟩
  cases r1 <;> cases r2 <;> first | exact h.elim | skip
  exact op_mulW pins s σ H _ _ v u Q I rx ry ⟨_, _, rfl, rfl, h.1, h.2 _ H (.refl rs) (.int _)⟩
theorem opD_div : OpD X (binaryOp .FloorDiv) fDiv := by
  refine ⟨moDiv, fun pins s σ H x y v u Q Z S dx dy I rx ry rs r1 r2 h => ?_⟩
  cases r1 <;> cases r2 <;> first | exact h.elim | skip
  obtain ⟨t, rfl⟩ := rx
  obtain ⟨t', rfl⟩ := ry
  exact floordiv_int h.1.1 ⟨.int _, H, I.tok _, ⟨_, rfl⟩, h.2 _ H (.refl rs) (.int _)⟩ (.inl (PyProof.noPylong_of_log2 h.1.2))
theorem opD_mod : OpD X (binaryOp .Mod) fMod := by
  refine ⟨moMod, fun pins s σ H x y v u Q Z S dx dy I rx ry rs r1 r2 h => ?_⟩
  cases r1 <;> cases r2 <;> first | exact h.elim | skip
  exact op_modN pins s σ H _ _ v u Q I rx ry ⟨_, _, rfl, rfl, h.1, h.2 _ H (.refl rs) (.int _)⟩
theorem opD_pow : OpD X (binaryOp .Pow) fPow := by
  refine ⟨moPow, fun pins s σ H x y v u Q Z S dx dy I rx ry rs r1 r2 h => ?_⟩
  cases r1 <;> cases r2 <;> first | exact h.elim | skip
  obtain ⟨t, rfl⟩ := rx
  obtain ⟨t', rfl⟩ := ry
  exact pow_int h.1 h.2.1 ⟨.int _, H, I.tok _, ⟨_, rfl⟩, h.2.2 _ H (.refl rs) (.int _)⟩
theorem opD_shl : OpD X (binaryOp .LShift) fShl := by
  refine ⟨moShl, fun pins s σ H x y v u Q Z S dx dy I rx ry rs r1 r2 h => ?_⟩
  cases r1 <;> cases r2 <;> first | exact h.elim | skip
  exact op_shl pins s σ H _ _ v u Q I rx ry ⟨_, _, rfl, rfl, h.1, h.2 _ H (.refl rs) (.int _)⟩
theorem opD_lt : OpD X (compareOp .Lt) fLt := by
  refine ⟨moLt, fun pins s σ H x y v u Q Z S dx dy I rx ry rs r1 r2 h => ?_⟩
  cases r1 <;> cases r2 <;> first | exact h.elim | skip
  exact op_lt pins s σ H _ _ v u Q I rx ry ⟨_, _, rfl, rfl, h _ H (.refl rs) (.bl _)⟩
theorem opD_le : OpD X (compareOp .LtE) fLe := by
  refine ⟨moLe, fun pins s σ H x y v u Q Z S dx dy I rx ry rs r1 r2 h => ?_⟩
  cases r1 <;> cases r2 <;> first | exact h.elim | skip
  exact op_le pins s σ H _ _ v u Q I rx ry ⟨_, _, rfl, rfl, h _ H (.refl rs) (.bl _)⟩
theorem opD_gt : OpD X (compareOp .Gt) fGt := by
  refine ⟨moGt, fun pins s σ H x y v u Q Z S dx dy I rx ry rs r1 r2 h => ?_⟩
  cases r1 <;> cases r2 <;> first | exact h.elim | skip
  exact op_gt pins s σ H _ _ v u Q I rx ry ⟨_, _, rfl, rfl, h _ H (.refl rs) (.bl _)⟩
theorem opD_ge : OpD X (compareOp .GtE) fGe := by
  refine ⟨moGe, fun pins s σ H x y v u Q Z S dx dy I rx ry rs r1 r2 h => ?_⟩
  cases r1 <;> cases r2 <;> first | exact h.elim | skip
  exact op_ge pins s σ H _ _ v u Q I rx ry ⟨_, _, rfl, rfl, h _ H (.refl rs) (.bl _)⟩
end
end Bl

namespace Bl
open PySem PySem.Spec PyProof.Rows L2

/-! ### equality -/
mutual
def py : D → PyData
  | .non => .none
  | .bl b => .bool b
  | .int i => .int i
  | .str x => .str x
  | .tup ds => .tuple (pyL ds)
  | .lst ds => .list (pyL ds)
  | .ref _ => .none
  | .obj _ => .none
def pyL : List D → List PyData
  | [] => []
  | d :: ds => py d :: pyL ds
end
mutual
/-- no address within -/
def pl : D → Bool
  | .non => true
  | .bl _ => true
  | .int _ => true
  | .str _ => true
  | .tup ds => plL ds
  | .lst ds => plL ds
  | .ref _ => false
  | .obj _ => false
def plL : List D → Bool
  | [] => true
  | d :: ds => pl d && plL ds
end
section
variable {K : Kz} {S : Sto} {H : Hp}
mutual
theorem Rp.dp : ∀ (d : D) (v : V), pl d = true → Rp K S H d v → Dp K.K H v (py d)
  | .non, _, _, h => by cases h; exact .non
  | .bl b, _, _, h => by cases h; exact .bl b
  | .int i, _, _, h => by cases h; exact .int i
  | .str x, _, _, h => by cases h; exact .str x
  | .tup ds, _, p, h => by
    cases h with
    | tup hs ha => exact .tup hs (RpL.dp ds _ p ha)
  | .lst ds, _, p, h => by
    cases h with
    | lst hs hn hz ha => exact .lst (.inl hs) (RpL.dp ds _ p ha)
    | lstK hs ha => exact .lst (SqL.ofK hs) (RpL.dp ds _ p ha)
  | .ref _, _, p, _ => by cases p
  | .obj _, _, p, _ => by cases p
theorem RpL.dp : ∀ (ds : List D) (vs : List V), plL ds = true → RpL K S H ds vs → DpAll K.K H vs (pyL ds)
  | [], _, _, h => by cases h; exact .nil
  | d :: ds, _, p, h => by
    have p' : (pl d && plL ds) = true := p
    rw [Bool.and_eq_true] at p'
    cases h with
    | cons h1 h2 => exact .cons (Rp.dp d _ p'.1 h1) (RpL.dp ds _ p'.2 h2)
end
end
/-- data that == takes -/
def okD (d : D) : Prop := pl d = true ∧ SeqAt.shaped (py d) = true
def eqD (x y : D) : Bool := PyData.eqv (py x) (py y)
def fEq : F2 := fun x y S Q => okD x ∧ okD y ∧ Q (.bl (eqD x y)) S
def fNe : F2 := fun x y S Q => okD x ∧ okD y ∧ Q (.bl (!eqD x y)) S
theorem moEq : MoF2 fEq := fun x y S Q Q' h q => ⟨q.1, q.2.1, h _ _ q.2.2⟩
theorem moNe : MoF2 fNe := fun x y S Q Q' h q => ⟨q.1, q.2.1, h _ _ q.2.2⟩
def isN : D → Bool
  | .non => true
  | _ => false
def fIs : F2 := fun x y S Q => match y with
  | .non => Q (.bl (isN x)) S
  | _ => False
def fIsNot : F2 := fun x y S Q => match y with
  | .non => Q (.bl (!isN x)) S
  | _ => False
theorem moIs : MoF2 fIs := fun x y S Q Q' h q => by
  unfold fIs at q ⊢
  split at q <;> first | exact h _ _ q | exact q
theorem moIsNot : MoF2 fIsNot := fun x y S Q Q' h q => by
  unfold fIsNot at q ⊢
  split at q <;> first | exact h _ _ q | exact q
/-- in a list, a tuple of data; a text in a text -/
def fIn (neg : Bool) : F2 := fun x y S Q => match y with
  | .lst ds => okD x ∧ okD (.lst ds) ∧ Q (.bl (xor neg (ds.any fun z => eqD z x))) S
  | .tup ds => okD x ∧ okD (.tup ds) ∧ Q (.bl (xor neg (ds.any fun z => eqD z x))) S
  | .str j => match x with
    | .str i => Q (.bl (xor neg (!(Builtin.Str.occurrences j i 0 j.length 1).isEmpty))) S
    | _ => False
  | _ => False
theorem moIn (neg : Bool) : MoF2 (fIn neg) := fun x y S Q Q' h q => by
  unfold fIn at q ⊢
  cases y <;> first
    | exact ⟨q.1, q.2.1, h _ _ q.2.2⟩
    | (cases x <;> first | exact h _ _ q | exact q)
    | exact q
theorem anyPy (x : D) : ∀ ds : List D, (pyL ds).any (fun z => PyData.eqv z (py x)) = ds.any fun z => eqD z x
  | [] => rfl
  | d :: ds => by
    show (PyData.eqv (py d) (py x) || (pyL ds).any fun z => PyData.eqv z (py x)) = _
    rw [anyPy x ds]
    rfl
section
variable {X : Cx}
theorem opD_eq {k : Nat} (hr : Room k X.A) : OpD X (compareOp .Eq) fEq := by
  refine ⟨moEq, fun pins s σ H x y v u Q Z S dx dy I rx ry rs r1 r2 h => ?_⟩
  exact op_eqD hr.units pins s σ H _ _ v u Q I rx ry ⟨_, _, Rp.dp _ _ h.1.1 r1, Rp.dp _ _ h.2.1.1 r2, h.1.2, h.2.1.2, h.2.2 _ H (.refl rs) (.bl _)⟩
theorem opD_ne {k : Nat} (hr : Room k X.A) : OpD X (compareOp .NotEq) fNe := by
  refine ⟨moNe, fun pins s σ H x y v u Q Z S dx dy I rx ry rs r1 r2 h => ?_⟩
  exact op_neD hr.units pins s σ H _ _ v u Q I rx ry ⟨_, _, Rp.dp _ _ h.1.1 r1, Rp.dp _ _ h.2.1.1 r2, h.1.2, h.2.1.2, h.2.2 _ H (.refl rs) (.bl _)⟩
theorem isN_of {K : Kz} {S : Sto} {H : Hp} {d : D} {v : V} (r : Rp K S H d v) : decide (v = .non) = isN d := by
  cases r <;> rfl
theorem opD_is : OpD X (compareOp .Is) fIs := by
  refine ⟨moIs, fun pins s σ H x y v u Q Z S dx dy I rx ry rs r1 r2 h => ?_⟩
  cases r2 <;> first | exact h.elim | skip
  exact op_isN pins s σ H _ _ v u Q I rx ry ⟨rfl, by rw [isN_of r1]; exact h _ H (.refl rs) (.bl _)⟩
theorem room65 {k : Nat} {A : Around} (hr : Room k A) : A.units + 65 < cLine := by have := hr.un; omega
/-- x in a list of data -/
theorem in_listD {k : Nat} (hr : Room k X.A) (neg : Bool) {pins : List (Addr × Obj)} {s : Shared} {σ : L2.St} {H : Hp} {Z : Addr → Prop} {S : Sto} {x y : V} {v u : Value} {Q : VK} {d : D} {ds : List D} (I : Inv X pins σ H s) (rx : RelV x v) (ry : RelV y u) (h1 : okD d) (h2 : okD (.lst ds))
    (r1 : Rp ⟨X.K, Z⟩ S H d x) (r2 : Rp ⟨X.K, Z⟩ S H (.lst ds) y) (q : Q (.bl (xor neg (ds.any fun z => eqD z d))) H) : wpAny (model X.prog X.w) X.A (compareOp (if neg then .NotIn else .In) v u) (EP X pins σ Q) X.xe s := by
  cases neg with
  | false => exact op_inD (room65 hr) pins s σ H x y v u Q I rx ry ⟨_, _, Rp.dp _ _ h1.1 r1, Rp.dp _ _ h2.1 r2, h1.2, h2.2, by rw [anyPy]; simpa using q⟩
  | true => exact op_notInD (room65 hr) pins s σ H x y v u Q I rx ry ⟨_, _, Rp.dp _ _ h1.1 r1, Rp.dp _ _ h2.1 r2, h1.2, h2.2, by rw [anyPy]; simpa using q⟩
theorem in_tupD {k : Nat} (hr : Room k X.A) (neg : Bool) {pins : List (Addr × Obj)} {s : Shared} {σ : L2.St} {H : Hp} {Z : Addr → Prop} {S : Sto} {x y : V} {v u : Value} {Q : VK} {d : D} {ds : List D} (I : Inv X pins σ H s) (rx : RelV x v) (ry : RelV y u) (h1 : okD d) (h2 : okD (.tup ds))
    (r1 : Rp ⟨X.K, Z⟩ S H d x) (r2 : Rp ⟨X.K, Z⟩ S H (.tup ds) y) (q : Q (.bl (xor neg (ds.any fun z => eqD z d))) H) : wpAny (model X.prog X.w) X.A (compareOp (if neg then .NotIn else .In) v u) (EP X pins σ Q) X.xe s := by
  obtain ⟨as, e1⟩ := Dp.reads I _ x v (Rp.dp _ _ h1.1 r1) rx
  obtain ⟨bs, e2⟩ := Dp.reads I _ y u (Rp.dp _ _ h2.1 r2) ry
  have e2 : Reads s.heap u (.tuple (pyL ds)) bs := e2
  have c2 : PyData.canLay0 (.list (pyL ds)) = true := SeqAt.canLay_of_shaped (d := .tuple (pyL ds)) h2.2
  cases neg with
  | false => exact SeqAt.in_tuple_reads e2 e1 c2 (SeqAt.canLay_of_shaped h1.2) (room_in_shaped h1.2 (room65 hr)) ⟨.bl _, H, I, rfl, by rw [anyPy]; simpa using q⟩
  | true => exact SeqAt.notIn_tuple_reads e2 e1 c2 (SeqAt.canLay_of_shaped h1.2) (room_in_shaped h1.2 (room65 hr)) ⟨.bl _, H, I, rfl, by rw [anyPy]; simpa using q⟩
theorem opD_in {k : Nat} (hr : Room k X.A) : OpD X (compareOp .In) (fIn false) := by
  refine ⟨moIn _, fun pins s σ H x y v u Q Z S dx dy I rx ry rs r1 r2 h => ?_⟩
  cases dy with
  | lst ds => exact in_listD hr false I rx ry h.1 h.2.1 r1 r2 (h.2.2 _ H (.refl rs) (.bl _))
  | tup ds => exact in_tupD hr false I rx ry h.1 h.2.1 r1 r2 (h.2.2 _ H (.refl rs) (.bl _))
  | str j =>
    cases dx <;> first | exact h.elim | skip
    cases r1
    cases r2
    exact op_in_str pins s σ H _ _ v u Q I rx ry ⟨_, _, rfl, rfl, by simpa using h _ H (.refl rs) (.bl _)⟩
  | _ => exact h.elim
theorem opD_notIn {k : Nat} (hr : Room k X.A) : OpD X (compareOp .NotIn) (fIn true) := by
  refine ⟨moIn _, fun pins s σ H x y v u Q Z S dx dy I rx ry rs r1 r2 h => ?_⟩
  cases dy with
  | lst ds => exact in_listD hr true I rx ry h.1 h.2.1 r1 r2 (h.2.2 _ H (.refl rs) (.bl _))
  | tup ds => exact in_tupD hr true I rx ry h.1 h.2.1 r1 r2 (h.2.2 _ H (.refl rs) (.bl _))
  | str j =>
    cases dx <;> first | exact h.elim | skip
    cases r1
    cases r2
    exact L2.op_notin_str pins s σ H _ _ v u Q I rx ry ⟨_, _, rfl, rfl, by simpa using h _ H (.refl rs) (.bl _)⟩
  | _ => exact h.elim
end

/-! ### -a -/
def dNeg (t : TEd) : TEd := fun env S Q E => t env S (fun d S' => match d with | .int i => Q (.int (-i)) S' | _ => False) E
theorem moNeg {t : TEd} (h : MoE t) : MoE (dNeg t) := fun env S Q Q' E E' hq he q => h _ _ _ _ _ _ (fun d S1 q1 => by
  cases d <;> first | exact hq _ _ q1 | exact q1) he q
section
variable {X : Cx} {W : WX} {a b c : Expr} {ta tb tc : TEd} {pos : Pos}
theorem je_neg (ha : JE X W a ta) : JE X W (.UnaryOp .USub a pos) (dNeg ta) := by
  refine ⟨PE.imp (pe_un un_neg ha.pe) fun σ H Q h => ?_, moNeg ha.mo⟩
  obtain ⟨Z, env, S, re, rs, q⟩ := h
  refine LE.of ha.mo re rs q (fun d S1 x H1 q1 a1 r1 => ?_) fun x S1 c dx H1 q1 a1 r1 => q1 c dx H1 a1 r1
  cases d <;> first | exact q1.elim | skip
  cases r1
  exact ⟨_, rfl, q1 _ H1 a1 (.int _)⟩
/-- a op b op c, the two answers truths -/
def dChain (ta tb tc : TEd) (f g : F2) : TEd := fun env S Q E => ta env S (fun x S1 => tb env S1 (fun y S2 => f x y S2 (fun d S3 => match d with
  | .bl true => tc env S3 (fun z S4 => g y z S4 Q) E
  | .bl false => Q (.bl false) S3
  | _ => False)) E) E
theorem moChain {f g : F2} (ha : MoE ta) (hb : MoE tb) (hc : MoE tc) (hf : MoF2 f) (hg : MoF2 g) : MoE (dChain ta tb tc f g) := fun env S Q Q' E E' h he q =>
  ha _ _ _ _ _ _ (fun x S1 q1 => hb _ _ _ _ _ _ (fun y S2 q2 => hf _ _ _ _ _ (fun d S3 q3 => by
    cases d <;> first | exact q3 | skip
    rename_i b
    cases b
    · exact h _ _ q3
    · exact hc _ _ _ _ _ _ (fun z S4 q4 => hg _ _ _ _ _ h q4) he q3) q2) he q1) he q
/-- OpD's answer, as a relation of the layer's -/
def rD (K : PySem.W.Frag) (f : F2) : R2 := fun x y H Q => ∃ Z S dx dy, RS ⟨K, Z⟩ S H ∧ Rp ⟨K, Z⟩ S H dx x ∧ Rp ⟨K, Z⟩ S H dy y ∧ f dx dy S (PQ ⟨K, Z⟩ S H Q)
theorem OpD.op {g : Value → Value → Sem Value} {f : F2} (h : OpD X g f) : OpR X g (rD X.K f) := fun pins s σ H x y v u Q I rx ry ⟨Z, S, dx, dy, rs, r1, r2, q⟩ => h.run pins s σ H x y v u Q Z S dx dy I rx ry rs r1 r2 q
theorem chainV {op op' : CmpOp} {f g : F2} (ho : OpD X (compareOp op) f) (ho' : OpD X (compareOp op') g) (ha : JE X W a ta) (hb : JE X W b tb) (hc : JE X W c tc) {σ : L2.St} {H : Hp} {Q : VK} (h : LE X.K W (dChain ta tb tc f g) σ H Q) :
    tChain (rD X.K f) (rD X.K g) (LE X.K W ta) (LE X.K W tb) (LE X.K W tc) σ H Q := by
  obtain ⟨Z, env, S, re, rs, q⟩ := h
  refine LE.of ha.mo re rs q (fun dx S1 x H1 q1 a1 r1 => ?_) fun x S1 c dx H1 q1 a1 r1 => q1 c dx H1 a1 r1
  refine LE.of hb.mo (re.step a1.st rs) a1.rs q1 (fun dy S2 y H2 q2 a2 r2 => ?_) fun x S2 c dx H2 q2 a2 r2 => q2 c dx H2 (a1.trans a2) r2
  refine ⟨Z, S2, dx, dy, a2.rs, Rp.step a2.st a1.rs _ _ r1, r2, ho.mo _ _ _ _ _ (fun d S3 q3 => ?_) q2⟩
  intro z H3 a3 r3
  have a13 := (a1.trans a2).trans a3
  cases d <;> first | exact q3.elim | skip
  rename_i t
  cases r3
  refine ⟨t, rfl, ?_⟩
  cases t with
  | false => exact iteF (q3 _ H3 a13 (.bl _))
  | true =>
    refine iteT (LE.of hc.mo (re.step a13.st rs) a3.rs q3 (fun dz S4 z H4 q4 a4 r4 => ?_) fun x S4 c dx H4 q4 a4 r4 => q4 c dx H4 (a13.trans a4) r4)
    exact ⟨Z, S4, dy, dz, a4.rs, Rp.step a4.st a3.rs _ _ (Rp.step a3.st a2.rs _ _ r2), r4, ho'.mo _ _ _ _ _ (fun d S5 q5 => PQ.after (a13.trans a4) q5) q4⟩
theorem je_chain {op op' : CmpOp} {f g : F2} (ho : OpD X (compareOp op) f) (ho' : OpD X (compareOp op') g) (ha : JE X W a ta) (hb : JE X W b tb) (hc : JE X W c tc)
    (hm : lastMarks [op, op'] [b, c] = false := by rfl) : JE X W (.Compare a [op, op'] [b, c] pos) (dChain ta tb tc f g) :=
  ⟨PE.imp (pe_chain ho.op ho'.op ha.pe hb.pe hc.pe hm) fun σ H Q h => chainV ho ho' ha hb hc h, moChain ha.mo hb.mo hc.mo ho.mo ho'.mo⟩
end

/-! ### argument lists, displays -/
def aNil : TAd := fun _ S Q _ => Q [] S
def aCons (t : TEd) (u : TAd) : TAd := fun env S Q E => t env S (fun d S1 => u env S1 (fun ds S2 => Q (d :: ds) S2) E) E
def dTup (t : TAd) : TEd := fun env S Q E => t env S (fun ds S1 => ds.length ≤ sizeLine ∧ Q (.tup ds) S1) E
def dLst (t : TAd) : TEd := fun env S Q E => t env S (fun ds S1 => ds.length ≤ sizeLine ∧ Q (.lst ds) S1) E
def dLstR (t : TAd) : TEd := fun env S Q E => t env S (fun ds S1 => ds.length ≤ sizeLine ∧ ∀ a, S1 a = none → Q (.ref a) (sup S1 a ds)) E
theorem moNilA : MoE aNil := fun env S Q Q' E E' h he q => h _ _ q
theorem moConsA {t : TEd} {u : TAd} (ht : MoE t) (hu : MoE u) : MoE (aCons t u) := fun env S Q Q' E E' h he q =>
  ht _ _ _ _ _ _ (fun d S1 q1 => hu _ _ _ _ _ _ (fun ds S2 q2 => h _ _ q2) he q1) he q
theorem moTup {t : TAd} (ht : MoE t) : MoE (dTup t) := fun env S Q Q' E E' h he q => ht _ _ _ _ _ _ (fun ds S1 q1 => ⟨q1.1, h _ _ q1.2⟩) he q
theorem moLst {t : TAd} (ht : MoE t) : MoE (dLst t) := fun env S Q Q' E E' h he q => ht _ _ _ _ _ _ (fun ds S1 q1 => ⟨q1.1, h _ _ q1.2⟩) he q
theorem moLstR {t : TAd} (ht : MoE t) : MoE (dLstR t) := fun env S Q Q' E E' h he q => ht _ _ _ _ _ _ (fun ds S1 q1 => ⟨q1.1, fun a n => h _ _ (q1.2 a n)⟩) he q
section
variable {X : Cx} {W : WX} {e : Expr} {es : List Expr} {t : TEd} {u : TAd} {pos : Pos}
theorem LA.cons {K : PySem.W.Frag} {t : TEd} {u : TAd} (ht : MoE t) (hu : MoE u) {σ : L2.St} {H : Hp} {Q : List V → Hp → Prop} (h : LA K W (aCons t u) σ H Q) : LE K W t σ H fun x H1 => LA K W u σ H1 fun xs H2 => Q (x :: xs) H2 := by
  obtain ⟨Z, env, S, re, rs, q⟩ := h
  refine LE.of ht re rs q (fun d S1 x H1 q1 a1 r1 => ?_) fun x S1 c dx H1 q1 a1 r1 => q1 c dx H1 a1 r1
  exact LA.of hu (re.step a1.st rs) a1.rs q1 (fun ds S2 vs H2 q2 a2 r2 => q2 _ H2 (a1.trans a2) (.cons (Rp.step a2.st a1.rs _ _ r1) r2)) fun x S2 c dx H2 q2 a2 r2 => q2 c dx H2 (a1.trans a2) r2
theorem ja_nil : JA X W [] aNil := ⟨PA.imp pa_nil fun σ H Q h => by
  obtain ⟨Z, env, S, re, rs, q⟩ := h
  exact q [] H (.refl rs) .nil, moNilA⟩
theorem ja_cons (ha : JE X W e t) (hr : JA X W es u) (hs : starEach (e :: es) X.env = (false, eval e X.env) :: starEach es X.env := by rfl) : JA X W (e :: es) (aCons t u) :=
  ⟨PA.imp (pa_cons ha.pe hr.pa hs) fun σ H Q h => LA.cons ha.mo hr.mo h, moConsA ha.mo hr.mo⟩
theorem je_tup {x1 : Nat} (h : JA X W es u) : JE X W (.Tuple es x1 pos) (dTup u) := by
  refine ⟨PE.imp (pe_tup h.pa) fun σ H Q q => ?_, moTup h.mo⟩
  obtain ⟨Z, env, S, re, rs, q⟩ := q
  refine LA.of h.mo re rs q (fun ds S1 vs H1 q1 a1 r1 => ⟨by rw [← r1.length]; exact q1.1, fun p hp => ?_⟩) fun x S1 c dx H1 q1 a1 r1 => q1 c dx H1 a1 r1
  obtain ⟨a2, r2⟩ := Rp.newT a1.rs hp r1
  exact q1.2 _ _ (a1.trans a2) r2
theorem je_lst (h : JA X W es u) : JE X W (.List es pos) (dLst u) := by
  refine ⟨PE.imp (pe_lst h.pa) fun σ H Q q => ?_, moLst h.mo⟩
  obtain ⟨Z, env, S, re, rs, q⟩ := q
  refine LA.of h.mo re rs q (fun ds S1 vs H1 q1 a1 r1 => ⟨by rw [← r1.length]; exact q1.1, fun p hp => ?_⟩) fun x S1 c dx H1 q1 a1 r1 => q1 c dx H1 a1 r1
  obtain ⟨a2, r2⟩ := Rp.newL a1.rs hp r1
  exact q1.2 _ _ (a1.trans a2) r2
/-- a list that is to be grown -/
theorem je_lstR (h : JA X W es u) : JE X W (.List es pos) (dLstR u) := by
  refine ⟨PE.imp (pe_lst h.pa) fun σ H Q q => ?_, moLstR h.mo⟩
  obtain ⟨Z, env, S, re, rs, q⟩ := q
  refine LA.of h.mo re rs q (fun ds S1 vs H1 q1 a1 r1 => ⟨by rw [← r1.length]; exact q1.1, fun p hp => ?_⟩) fun x S1 c dx H1 q1 a1 r1 => q1 c dx H1 a1 r1
  exact q1.2 p (a1.rs.free hp) _ _ (a1.trans (Rp.newR a1.rs hp r1)) (.ref p)
end

/-! ### subscripts -/
def fIx : F2 := fun x y S Q => match y with
  | .int i => match x with
    | .tup ds => match atI ds i with | some d => Q d S | none => False
    | .lst ds => match atI ds i with | some d => Q d S | none => False
    | .ref a => match S a with
      | some ds => match atI ds i with | some d => Q d S | none => False
      | none => False
    | .str z => z.length ≤ sizeLine ∧ match atI z.cps.toList i with | some c => Q (.str ⟨#[c]⟩) S | none => False
    | _ => False
  | _ => False
theorem moIx : MoF2 fIx := fun x y S Q Q' h q => by
  unfold fIx at q ⊢
  cases y <;> first | exact q | skip
  cases x <;> first | exact q | skip
  · dsimp only at q ⊢; refine ⟨q.1, ?_⟩; have q2 := q.2; split at q2 <;> first | exact h _ _ q2 | exact q2
  · dsimp only at q ⊢; split at q <;> first | exact h _ _ q | exact q
  · dsimp only at q ⊢; split at q <;> first | exact h _ _ q | exact q
  · dsimp only at q ⊢
    split at q
    · split at q <;> first | exact h _ _ q | exact q
    · exact q
theorem atI_rp {K : Kz} {S : Sto} {H : Hp} {ds : List D} {vs : List V} {i : Int} {d : D} (r : RpL K S H ds vs) (e : atI ds i = some d) : ∃ v, atI vs i = some v ∧ Rp K S H d v := by
  unfold atI at e ⊢
  rw [← r.length]
  cases h : ixN ds.length i with
  | none => rw [h] at e; cases e
  | some j =>
    rw [h] at e
    exact r.get e
section
variable {X : Cx} {W : WX} {a b : Expr} {ta tb : TEd} {pos : Pos}
theorem ixD : IxR X (rD X.K fIx) := by
  intro value slice pins s σ H x y v u Q I rx ry h hs
  obtain ⟨Z, S, dx, dy, rs, r1, r2, q⟩ := h
  cases r2 <;> first | (unfold fIx at q; exact q.elim) | skip
  rename_i i
  cases r1 with
  | tup hq ha =>
    unfold fIx at q; dsimp only at q
    split at q <;> first | exact q.elim | skip
    rename_i d e
    obtain ⟨z, e2, r⟩ := atI_rp ha e
    exact ix_tup value slice pins s σ H _ _ v u Q I rx ry ⟨_, _, _, z, rfl, rfl, hq, e2, q z H (.refl rs) r⟩ hs
  | lst hq hn hz ha =>
    unfold fIx at q; dsimp only at q
    split at q <;> first | exact q.elim | skip
    rename_i d e
    obtain ⟨z, e2, r⟩ := atI_rp ha e
    exact ix_list value slice pins s σ H _ _ v u Q I rx ry ⟨_, _, _, z, rfl, rfl, .inl hq, e2, q z H (.refl rs) r⟩ hs
  | lstK hq ha =>
    unfold fIx at q; dsimp only at q
    split at q <;> first | exact q.elim | skip
    rename_i d e
    obtain ⟨z, e2, r⟩ := atI_rp ha e
    exact ix_list value slice pins s σ H _ _ v u Q I rx ry ⟨_, _, _, z, rfl, rfl, SqL.ofK hq, e2, q z H (.refl rs) r⟩ hs
  | ref a =>
    unfold fIx at q; dsimp only at q
    split at q <;> first | exact q.elim | skip
    rename_i ds e0
    split at q <;> first | exact q.elim | skip
    rename_i d e
    obtain ⟨vs, hl, ha⟩ := rs.at_ a ds e0
    obtain ⟨z, e2, r⟩ := atI_rp ha e
    exact ix_list value slice pins s σ H _ _ v u Q I rx ry ⟨_, _, _, z, rfl, rfl, SqL.of hl, e2, q z H (.refl rs) r⟩ hs
  | str z =>
    unfold fIx at q; dsimp only at q
    obtain ⟨hz, q⟩ := q
    split at q <;> first | exact q.elim | skip
    rename_i c e
    exact ix_str value slice pins s σ H _ _ v u Q I rx ry ⟨z, i, c, rfl, rfl, hz, e, q _ H (.refl rs) (.str _)⟩ hs
  | _ => unfold fIx at q; exact q.elim
theorem je_ix (ha : JE X W a ta) (hb : JE X W b tb) (hs : PlainIx b := by exact fun _ _ => rfl) : JE X W (.Subscript a b pos) (dTwo ta tb fIx) :=
  ⟨PE.imp (pe_ix ixD ha.pe hb.pe hs) fun σ H Q h => two ha.mo hb.mo moIx h, moTwo ha.mo hb.mo moIx⟩
end

/-! ### slices -/
abbrev TOd := TX (Option Int)
def oNone : TOd := fun _ S Q _ => Q none S
def oSome (t : TEd) : TOd := fun env S Q E => t env S (fun d S1 => match d with | .int i => Q (some i) S1 | _ => False) E
theorem moONone : MoE oNone := fun env S Q Q' E E' h he q => h _ _ q
theorem moOSome {t : TEd} (ht : MoE t) : MoE (oSome t) := fun env S Q Q' E E' h he q => ht _ _ _ _ _ _ (fun d S1 q1 => by
  cases d <;> first | exact h _ _ q1 | exact q1) he q
def LO (K : PySem.W.Frag) (W : WX) (t : TOd) : TO := fun σ H Q => ∃ Z env S, RE ⟨K, Z⟩ S H env σ ∧ RS ⟨K, Z⟩ S H ∧ t env S (fun b S' => ∀ H', Aft ⟨K, Z⟩ S H S' H' → Q b H') (PX ⟨K, Z⟩ S H σ W)
theorem LO.of {K : Kz} {W : WX} {S : Sto} {H : Hp} {env : Ev} {σ : L2.St} {t : TOd} (mo : MoE t) (re : RE K S H env σ) (rs : RS K S H) {C : Option Int → Sto → Prop} {E : EK} {R : Option Int → Hp → Prop} (h : t env S C E)
    (hc : ∀ d S1 H1, C d S1 → Aft K S H S1 H1 → R d H1) (he : ∀ x S1 c dx H1, E x S1 → Aft K S H S1 H1 → RX K S1 H1 x c dx → W c dx σ H1) : LO K.K W t σ H R :=
  ⟨K.Z, env, S, re, rs, mo _ _ _ _ _ _ (fun d S1 q H1 a => hc d S1 H1 q a) (fun x S1 q c dx H1 a r => he x S1 c dx H1 q a r) h⟩
structure JO (X : Cx) (W : WX) (e : Option Expr) (t : TOd) : Prop where
  po : PO X e (LO X.K W t)
  mo : MoE t
def cutD (ds : List D) (lo hi : Option Int) : List D := (ds.drop (HT.sIx ds.length 0 lo)).take (HT.sIx ds.length ds.length hi - HT.sIx ds.length 0 lo)
def fSl (x : D) (lo hi : Option Int) (S : Sto) (Q : DK) : Prop := match x with
  | .tup ds => Q (.tup (cutD ds lo hi)) S
  | .lst ds => Q (.lst (cutD ds lo hi)) S
  | .ref a => match S a with
    | some ds => Q (.lst (cutD ds lo hi)) S
    | none => False
  | .str z => z.length ≤ sizeLine ∧ Q (.str (cutS z lo hi)) S
  | _ => False
theorem moFSl {x : D} {lo hi : Option Int} {S : Sto} {Q Q' : DK} (h : ∀ d S, Q d S → Q' d S) (q : fSl x lo hi S Q) : fSl x lo hi S Q' := by
  unfold fSl at q ⊢
  cases x <;> first
    | exact h _ _ q
    | exact ⟨q.1, h _ _ q.2⟩
    | (dsimp only at q ⊢; split at q <;> first | exact h _ _ q | exact q)
    | exact q
def dSl (t : TEd) (lo hi : TOd) : TEd := fun env S Q E => t env S (fun x S1 => lo env S1 (fun l S2 => hi env S2 (fun u S3 => fSl x l u S3 Q) E) E) E
theorem moSl {t : TEd} {lo hi : TOd} (ht : MoE t) (hl : MoE lo) (hh : MoE hi) : MoE (dSl t lo hi) := fun env S Q Q' E E' h he q =>
  ht _ _ _ _ _ _ (fun x S1 q1 => hl _ _ _ _ _ _ (fun l S2 q2 => hh _ _ _ _ _ _ (fun u S3 q3 => moFSl h q3) he q2) he q1) he q
theorem cut_rp {K : Kz} {S : Sto} {H : Hp} {ds : List D} {vs : List V} {lo hi : Option Int} (r : RpL K S H ds vs) : RpL K S H (cutD ds lo hi) (cutV vs lo hi) := by
  unfold cutD cutV
  rw [r.length]
  exact (r.drop _).take _
theorem cutV_all {vs : List V} {lo hi : Option Int} (h : HT.sIx vs.length 0 lo = 0 ∧ HT.sIx vs.length vs.length hi = vs.length) : cutV vs lo hi = vs := by
  unfold cutV
  rw [h.1, h.2]
  simp
section
variable {X : Cx} {W : WX} {e : Expr} {t : TEd} {lo hi : Option Expr} {tl th : TOd} {pos p2 : Pos}
theorem jo_none : JO X W none oNone := ⟨⟨fun pins s σ H Q I h => by
  obtain ⟨Z, env, S, re, rs, q⟩ := h
  exact po_none.run pins s σ H Q I (q H (.refl rs))⟩, moONone⟩
theorem jo_some (h : JE X W e t) : JO X W (some e) (oSome t) := ⟨⟨fun pins s σ H Q I h2 => by
  obtain ⟨Z, env, S, re, rs, q⟩ := h2
  refine (po_some h.pe).run pins s σ H Q I (LE.of h.mo re rs q (fun d S1 x H1 q1 a1 r1 => ?_) fun x S1 c dx H1 q1 a1 r1 => q1 c dx H1 a1 r1)
  cases d <;> first | exact q1.elim | skip
  cases r1
  exact ⟨_, rfl, q1 H1 a1⟩⟩, moOSome h.mo⟩
def rSlD (K : PySem.W.Frag) : V → Option Int → Option Int → Hp → VK → Prop := fun x lo hi H Q => ∃ Z S d, RS ⟨K, Z⟩ S H ∧ Rp ⟨K, Z⟩ S H d x ∧ fSl d lo hi S (PQ ⟨K, Z⟩ S H Q)
theorem slD : SlR X (rSlD X.K) := by
  intro pins s σ H x v vl vu lo hi sl Q I rx hs pl pu h
  obtain ⟨Z, S, d, rs, r, q⟩ := h
  cases r with
  | tup hq ha =>
    refine sl_tupA pins s σ H _ v vl vu lo hi sl Q I rx hs pl pu ⟨_, _, rfl, hq, fun e => ?_, fun _ p hp => ?_⟩
    · have z := q (.ref _) H (.refl rs) (.tup hq (by rw [← cutV_all e]; exact cut_rp ha))
      exact z
    · obtain ⟨a2, r2⟩ := Rp.newT rs hp (cut_rp (lo := lo) (hi := hi) ha)
      exact q _ _ a2 r2
  | lst hq hn hz ha => exact sl_list pins s σ H _ v vl vu lo hi sl Q I rx hs pl pu ⟨_, _, rfl, .inl hq, fun p hp => by
      obtain ⟨a2, r2⟩ := Rp.newL rs hp (cut_rp (lo := lo) (hi := hi) ha)
      exact q _ _ a2 r2⟩
  | lstK hq ha => exact sl_list pins s σ H _ v vl vu lo hi sl Q I rx hs pl pu ⟨_, _, rfl, SqL.ofK hq, fun p hp => by
      obtain ⟨a2, r2⟩ := Rp.newL rs hp (cut_rp (lo := lo) (hi := hi) ha)
      exact q _ _ a2 r2⟩
  | ref a =>
    unfold fSl at q; dsimp only at q
    split at q <;> first | exact q.elim | skip
    rename_i ds e0
    obtain ⟨vs, hl, ha⟩ := rs.at_ a ds e0
    exact sl_list pins s σ H _ v vl vu lo hi sl Q I rx hs pl pu ⟨_, _, rfl, SqL.of hl, fun p hp => by
      obtain ⟨a2, r2⟩ := Rp.newL rs hp (cut_rp (lo := lo) (hi := hi) ha)
      exact q _ _ a2 r2⟩
  | str z => exact sl_str pins s σ H _ v vl vu lo hi sl Q I rx hs pl pu ⟨_, rfl, q.1, q.2 _ H (.refl rs) (.str _)⟩
  | _ => exact q.elim
theorem je_sl (ha : JE X W e t) (hl : JO X W lo tl) (hh : JO X W hi th) : JE X W (.Subscript e (.Slice lo hi none p2) pos) (dSl t tl th) := by
  refine ⟨PE.imp (pe_slice slD ha.pe hl.po hh.po) fun σ H Q h => ?_, moSl ha.mo hl.mo hh.mo⟩
  obtain ⟨Z, env, S, re, rs, q⟩ := h
  refine LE.of ha.mo re rs q (fun d S1 x H1 q1 a1 r1 => ?_) fun x S1 c dx H1 q1 a1 r1 => q1 c dx H1 a1 r1
  refine LO.of hl.mo (re.step a1.st rs) a1.rs q1 (fun l S2 H2 q2 a2 => ?_) fun x S2 c dx H2 q2 a2 r2 => q2 c dx H2 (a1.trans a2) r2
  have a12 := a1.trans a2
  refine LO.of hh.mo (re.step a12.st rs) a2.rs q2 (fun u S3 H3 q3 a3 => ?_) fun x S3 c dx H3 q3 a3 r3 => q3 c dx H3 (a12.trans a3) r3
  exact ⟨Z, S3, d, a3.rs, Rp.step a3.st a2.rs _ _ (Rp.step a2.st a1.rs _ _ r1), moFSl (fun d S4 q4 => PQ.after (a12.trans a3) q4) q3⟩
end
end Bl

namespace Bl
open PySem PySem.Spec PyProof.Rows L2

/-! ### defs -/
/-- a def's promise, by data -/
def LSp (K : PySem.W.Frag) (n : Nat) (m : TFd) : Sp := fun vs H Q E => ∃ Z ds S, ds.length = n ∧ RpL ⟨K, Z⟩ S H ds vs ∧ RS ⟨K, Z⟩ S H ∧ m ds S (PQ ⟨K, Z⟩ S H Q) fun x S' => ∀ c dx H', Aft ⟨K, Z⟩ S H S' H' → RX ⟨K, Z⟩ S' H' x c dx → E c dx H'
/-- the def x, called by np places and the keywords ks; gD puts the values into the parameters' order -/
structure JF (P : Program) (w : World) (K : PySem.W.Frag) (mg : Str → Option Value) (base : Heap) (x : Str) (np : Nat) (ks : List Str) (gD : List D → List D → List D) (k : Nat) (m : TFd) : Prop where
  ex : ∃ (f : Addr) (fd : FuncData) (ps : List Str) (g : List Value → List Value → List Value) (gV : List V → List V → List V), mg x = some (.ref f) ∧ PySem.W.keepIn K (.ref f) = true ∧ FnOk P w K mg base (L2.CX P w) k f fd ps (LSp K ps.length m) ∧ KBn K fd ps np ks g gV ∧
    ∀ (Z : Addr → Prop) S H ds zs vs ws, RpL ⟨K, Z⟩ S H ds vs → RpL ⟨K, Z⟩ S H zs ws → ds.length = np → zs.length = ks.length → RpL ⟨K, Z⟩ S H (gD ds zs) (gV vs ws) ∧ (gD ds zs).length = ps.length
  mo : MoF m
/-- a call: the values by places, then those by keywords -/
def dCall (m : TFd) (np nk : Nat) (gD : List D → List D → List D) (ta tk : TAd) : TEd := fun env S Q E => ta env S (fun ds S1 => tk env S1 (fun zs S2 => ds.length = np ∧ zs.length = nk ∧ m (gD ds zs) S2 Q E) E) E
theorem moCall {m : TFd} {np nk : Nat} {gD : List D → List D → List D} {ta tk : TAd} (hm : MoF m) (ha : MoE ta) (hk : MoE tk) : MoE (dCall m np nk gD ta tk) := fun env S Q Q' E E' h he q =>
  ha _ _ _ _ _ _ (fun ds S1 q1 => hk _ _ _ _ _ _ (fun zs S2 q2 => ⟨q2.1, q2.2.1, hm _ _ _ _ _ _ h he q2.2.2⟩) he q1) he q
structure JK (X : Cx) (W : WX) (kws : List Keyword) (t : TAd) : Prop where
  pk : PK X kws (LA X.K W t)
  mo : MoE t
section
variable {X : Cx} {W : WX} {e : Expr} {es : List Expr} {t : TEd} {u : TAd} {pos kpos : Pos} {nm : Option Str} {kws : List Keyword}
theorem run_fnG {k np : Nat} {f : Addr} {fd : FuncData} {ps ks : List Str} {sp : Sp} {E : XK} {g : List Value → List Value → List Value} {gV : List V → List V → List V} {pins : List (Addr × Obj)} {σ : L2.St} {H : Hp} {s : Shared} {Q : VK} {us ws : List Value} {vs zs : List V}
    (F : FnOk X.prog X.w X.K X.mg X.base (L2.CX X.prog X.w) k f fd ps sp) (hr : Room k X.A) (hb : KBn X.K fd ps np ks g gV) (hx : PassesAt (L2.CX X.prog X.w) X σ E)
    (I : Inv X pins σ H s) (r : Vals vs us) (rz : Vals zs ws) (l1 : vs.length = np) (l2 : zs.length = ks.length) (h : sp (gV vs zs) H Q E) : wpAny (model X.prog X.w) X.A (call (.ref f) us (ks.zip ws)) (EP X pins σ Q) X.xe s := by
  refine wpAny_call (codeAny_mono (F.run X.A X.stack s H ⟨us, ks.zip ws⟩ (g us ws) (gV vs zs) Q E hr I.env0 (hb.to s us ws I.kIn (r.length.symm.trans l1) (rz.length.symm.trans l2)) (hb.rel r rz) h) fun r s' hq => ?_)
  cases r with
  | error e => exact hx pins H s e s' I hq
  | ok fl =>
    cases fl with
    | ret u => exact I.after hq
    | next => exact False.elim hq
    | brk => exact False.elim hq
    | cont => exact False.elim hq
variable {P : Program} {w : World} {K : PySem.W.Frag} {mg : Str → Option Value} {base : Heap} {N : List Str} {sc : Scope} {vw : Vw} {k j : Nat} {x : Str} {np : Nat} {ks : List Str} {gD : List D → List D → List D} {m : TFd} {tk : TAd} {p : Pos}
/-- the callee's promise from the arguments -/
theorem call_sp {K : PySem.W.Frag} {Z : Addr → Prop} {S S2 : Sto} {H H2 : Hp} {σ : L2.St} {Q : VK} {n : Nat} {ds : List D} {vs : List V} (hm : MoF m) (a2 : Aft ⟨K, Z⟩ S H S2 H2) (r : RpL ⟨K, Z⟩ S2 H2 ds vs) (hl : ds.length = n) (h : m ds S2 (PQ ⟨K, Z⟩ S H Q) (PX ⟨K, Z⟩ S H σ W)) :
    LSp K n m vs H2 Q (WE W σ) :=
  ⟨Z, ds, S2, hl, r, a2.rs, hm _ _ _ _ _ _ (fun d S3 q => PQ.after a2 q) (fun x S3 q c dx H' a3 rx => q c dx H' (a2.trans a3) rx) h⟩
/-- f(e, ..) -/
theorem je_call (c : JC P w K mg base N sc vw k X W) (F : JF P w K mg base x np [] gD j m) (hj : j ≤ k) (hx : x ∈ vw.gs) (ha : JA X W (e :: es) u) (he : starEach (e :: es) X.env = (false, eval e X.env) :: starEach es X.env := by rfl)
    (hpl : (backTo pos (starEach es X.env)).any (·.1) = false := by rfl) : JE X W (.Call (.Name x p) (e :: es) [] pos) (dCall m np 0 gD u aNil) := by
  obtain ⟨rfl, rfl, rfl, rfl, rfl, rfl, rfl⟩ : X.prog = P ∧ X.w = w ∧ X.K = K ∧ X.mg = mg ∧ X.base = base ∧ X.N = N ∧ X.env.scope = sc := ⟨c.prog, c.ww, c.kk, c.gg, c.bb, c.nn, c.ss⟩
  obtain ⟨f, fd, ps, g, gV, hm, hkp, FF, hb, rel⟩ := F.ex
  refine ⟨⟨fun pins s σ H Q I h => ?_⟩, moCall F.mo ha.mo moNilA⟩
  obtain ⟨Z, env, S, re, rs, q⟩ := h
  refine wpAny_Call_Name_kw (ld_glob I (c.gl hx) hm ?_ (c.sC.gl x hx).2.2)
  refine PySem.W.callWith_K (h₀ := X.base) I.ok.mod.kin hkp (thn (ha.pa.run pos pins s σ H _ I (LA.of ha.mo re rs q (R := fun vs H1 => ∃ ds S1, Aft ⟨X.K, Z⟩ S H S1 H1 ∧ RpL ⟨X.K, Z⟩ S1 H1 ds vs ∧ ds.length = np ∧ ([] : List D).length = 0 ∧ m (gD ds []) S1 _ _) (fun ds S1 vs H1 q1 a1 r1 => ⟨ds, S1, a1, r1, q1⟩) fun x S1 c dx H1 q1 a1 r1 => q1 c dx H1 a1 r1)) fun us s1 ⟨vs, H1, I1, r, ds, S1, a1, r1, l1, l2, q1⟩ => ⟨I1.kIn, ?_⟩) he hpl
  obtain ⟨rr, ll⟩ := rel Z S1 H1 ds [] vs [] r1 .nil l1 rfl
  exact run_fnG (ws := []) (zs := []) FF (c.room.mono hj) hb (passAt c.tk σ) I1 r .nil (by rw [← r1.length]; exact l1) rfl (call_sp F.mo a1 rr ll q1)
end

/-! ### what is built in -/
abbrev GB := List D → Sto → DK → Prop
def rC (K : PySem.W.Frag) (g : GB) : List V → Hp → VK → Prop := fun vs H Q => ∃ Z S ds, RS ⟨K, Z⟩ S H ∧ RpL ⟨K, Z⟩ S H ds vs ∧ g ds S (PQ ⟨K, Z⟩ S H Q)
structure CallD (X : Cx) (f : Value) (g : GB) : Prop where
  mo : ∀ ds S (Q Q' : DK), (∀ d S, Q d S → Q' d S) → g ds S Q → g ds S Q'
  run : CallR X f (rC X.K g)
def dB (g : GB) (ta : TAd) : TEd := fun env S Q E => ta env S (fun ds S1 => g ds S1 Q) E
section
variable {X : Cx} {W : WX} {e : Expr} {es : List Expr} {t : TEd} {u : TAd} {pos p : Pos} {x : Str} {g : GB} {id T : String}
variable {P : Program} {w : World} {K : PySem.W.Frag} {mg : Str → Option Value} {base : Heap} {N : List Str} {sc : Scope} {vw : Vw} {k : Nat}
theorem dB_imp {K : PySem.W.Frag} {g : GB} (hg : ∀ ds S (Q Q' : DK), (∀ d S, Q d S → Q' d S) → g ds S Q → g ds S Q') (hu : MoE u) {σ : L2.St} {H : Hp} {Q : VK} (h : LE K W (dB g u) σ H Q) : tCB (rC K g) (LA K W u) σ H Q := by
  obtain ⟨Z, env, S, re, rs, q⟩ := h
  refine LA.of hu re rs q (fun ds S1 vs H1 q1 a1 r1 => ?_) fun x S1 c dx H1 q1 a1 r1 => q1 c dx H1 a1 r1
  exact ⟨Z, S1, ds, a1.rs, r1, hg _ _ _ _ (fun d S2 q2 => PQ.after a1 q2) q1⟩
theorem moB {g : GB} (hg : ∀ ds S (Q Q' : DK), (∀ d S, Q d S → Q' d S) → g ds S Q → g ds S Q') (hu : MoE u) : MoE (dB g u) := fun env S Q Q' E E' h he q => hu _ _ _ _ _ _ (fun ds S1 q1 => hg _ _ _ _ h q1) he q
theorem je_callB (c : JC P w K mg base N sc vw k X W) (hc : CallD X (.builtin id) g) (hx : x ∈ vw.gs) (hm : mg x = none) (hv : bootBuiltins x = some (.builtin id)) (ha : JA X W (e :: es) u) (he : starEach (e :: es) X.env = (false, eval e X.env) :: starEach es X.env := by rfl)
    (hpl : (backTo pos (starEach es X.env)).any (·.1) = false := by rfl) : JE X W (.Call (.Name x p) (e :: es) [] pos) (dB g u) :=
  ⟨PE.imp (pe_callB hc.run (c.gl hx) (by rw [c.gg]; exact hm) hv ha.pa (c.sC.gl x hx).2.1 (c.sC.gl x hx).2.2 he hpl) fun σ H Q h => dB_imp hc.mo ha.mo h, moB hc.mo ha.mo⟩
theorem je_callTy (c : JC P w K mg base N sc vw k X W) (hc : CallD X (.type T) g) (hx : x ∈ vw.gs) (hm : mg x = none) (hv : bootBuiltins x = some (.type T)) (ha : JA X W (e :: es) u) (he : starEach (e :: es) X.env = (false, eval e X.env) :: starEach es X.env := by rfl)
    (hpl : (backTo pos (starEach es X.env)).any (·.1) = false := by rfl) : JE X W (.Call (.Name x p) (e :: es) [] pos) (dB g u) :=
  ⟨PE.imp (pe_callTy hc.run (c.gl hx) (by rw [c.gg]; exact hm) hv ha.pa (c.sC.gl x hx).2.1 (c.sC.gl x hx).2.2 he hpl) fun σ H Q h => dB_imp hc.mo ha.mo h, moB hc.mo ha.mo⟩
end
def bAbs : GB := fun ds S Q => match ds with
  | [.int i] => Q (.int (if i < 0 then -i else i)) S
  | _ => False
def bLen : GB := fun ds S Q => match ds with
  | [.tup xs] => Q (.int xs.length) S
  | [.lst xs] => Q (.int xs.length) S
  | [.ref a] => match S a with | some xs => Q (.int xs.length) S | none => False
  | [.str x] => x.length ≤ sizeLine ∧ Q (.int x.length) S
  | _ => False
def bMax : GB := fun ds S Q => match ds with
  | [.int i, .int j] => Q (.int (if j > i then j else i)) S
  | _ => False
def bMin : GB := fun ds S Q => match ds with
  | [.int i, .int j] => Q (.int (if j < i then j else i)) S
  | _ => False
def bInt : GB := fun ds S Q => match ds with
  | [.int i] => Q (.int i) S
  | [.bl b] => Q (.int (if b then 1 else 0)) S
  | _ => False
def bTup : GB := fun ds S Q => match ds with
  | [.tup xs] => Q (.tup xs) S
  | [.lst xs] => Q (.tup xs) S
  | [.ref a] => match S a with | some xs => Q (.tup xs) S | none => False
  | _ => False
def bLst : GB := fun ds S Q => match ds with
  | [.tup xs] => Q (.lst xs) S
  | [.lst xs] => Q (.lst xs) S
  | [.ref a] => match S a with | some xs => Q (.lst xs) S | none => False
  | _ => False
def blsOf : List D → Option (List Bool)
  | [] => some []
  | .bl b :: ds => (blsOf ds).map (b :: ·)
  | _ => none
def bAll : GB := fun ds S Q => match ds with
  | [.lst xs] => match blsOf xs with | some bs => Q (.bl (bs.all id)) S | none => False
  | _ => False
section
variable {X : Cx}
theorem RpL.one {K : Kz} {S : Sto} {H : Hp} {d : D} {vs : List V} (h : RpL K S H [d] vs) : ∃ v, vs = [v] ∧ Rp K S H d v := by
  cases h with
  | cons a b => cases b; exact ⟨_, rfl, a⟩
theorem RpL.two {K : Kz} {S : Sto} {H : Hp} {d e : D} {vs : List V} (h : RpL K S H [d, e] vs) : ∃ v w, vs = [v, w] ∧ Rp K S H d v ∧ Rp K S H e w := by
  cases h with
  | cons a b =>
    cases b with
    | cons b c => cases c; exact ⟨_, _, rfl, a, b⟩
/-- a datum that is a list -/
theorem Rp.sqL {K : Kz} {S : Sto} {H : Hp} {xs : List D} {v : V} (h : Rp K S H (.lst xs) v) : ∃ a vs, v = .ref a ∧ SqL K.K H a vs ∧ RpL K S H xs vs := by
  cases h with
  | lst h1 h2 h3 h4 => exact ⟨_, _, rfl, .inl h1, h4⟩
  | lstK h1 h2 => exact ⟨_, _, rfl, SqL.ofK h1, h2⟩
theorem Rp.sqT {K : Kz} {S : Sto} {H : Hp} {xs : List D} {v : V} (h : Rp K S H (.tup xs) v) : ∃ a vs, v = .ref a ∧ SqT K.K H a vs ∧ RpL K S H xs vs := by
  cases h with
  | tup h1 h2 => exact ⟨_, _, rfl, h1, h2⟩
theorem Rp.sqR {K : Kz} {S : Sto} {H : Hp} {a : Addr} {xs : List D} (rs : RS K S H) (e : S a = some xs) : ∃ vs, SqL K.K H a vs ∧ RpL K S H xs vs := by
  obtain ⟨vs, h1, h2⟩ := rs.at_ a xs e
  exact ⟨vs, SqL.of h1, h2⟩
theorem cd_abs : CallD X (.builtin "abs") bAbs := by
  refine ⟨by (intro ds S Q Q' h q; unfold bAbs at q ⊢; split at q <;> first | exact h _ _ q | exact ⟨q.1, h _ _ q.2⟩ | exact q.elim | ((try dsimp only at q ⊢); split at q <;> first | exact h _ _ q | exact q.elim)), fun pins s σ H xs us Q I rv h => ?_⟩
  obtain ⟨Z, S, ds, rs, r, q⟩ := h
  unfold bAbs at q
  split at q <;> first | exact q.elim | skip
  obtain ⟨v, rfl, r1⟩ := r.one
  cases r1
  exact call_abs pins s σ H _ us Q I rv ⟨_, rfl, q _ H (.refl rs) (.int _)⟩
theorem cd_max (hc : X.calm = true) : CallD X (.builtin "max") bMax := by
  refine ⟨by (intro ds S Q Q' h q; unfold bMax at q ⊢; split at q <;> first | exact h _ _ q | exact ⟨q.1, h _ _ q.2⟩ | exact q.elim | ((try dsimp only at q ⊢); split at q <;> first | exact h _ _ q | exact q.elim)), fun pins s σ H xs us Q I rv h => ?_⟩
  obtain ⟨Z, S, ds, rs, r, q⟩ := h
  unfold bMax at q
  split at q <;> first | exact q.elim | skip
  obtain ⟨v, v2, rfl, r1, r2⟩ := r.two
  cases r1
  cases r2
  exact call_max2 hc pins s σ H _ us Q I rv ⟨_, _, rfl, q _ H (.refl rs) (.int _)⟩
theorem cd_min (hc : X.calm = true) : CallD X (.builtin "min") bMin := by
  refine ⟨by (intro ds S Q Q' h q; unfold bMin at q ⊢; split at q <;> first | exact h _ _ q | exact ⟨q.1, h _ _ q.2⟩ | exact q.elim | ((try dsimp only at q ⊢); split at q <;> first | exact h _ _ q | exact q.elim)), fun pins s σ H xs us Q I rv h => ?_⟩
  obtain ⟨Z, S, ds, rs, r, q⟩ := h
  unfold bMin at q
  split at q <;> first | exact q.elim | skip
  obtain ⟨v, v2, rfl, r1, r2⟩ := r.two
  cases r1
  cases r2
  exact call_min2 hc pins s σ H _ us Q I rv ⟨_, _, rfl, q _ H (.refl rs) (.int _)⟩
theorem cd_int : CallD X (.type "int") bInt := by
  refine ⟨by (intro ds S Q Q' h q; unfold bInt at q ⊢; split at q <;> first | exact h _ _ q | exact ⟨q.1, h _ _ q.2⟩ | exact q.elim | ((try dsimp only at q ⊢); split at q <;> first | exact h _ _ q | exact q.elim)), fun pins s σ H xs us Q I rv h => ?_⟩
  obtain ⟨Z, S, ds, rs, r, q⟩ := h
  unfold bInt at q
  split at q <;> first | exact q.elim | skip
  · obtain ⟨v, rfl, r1⟩ := r.one
    cases r1
    exact call_int1 pins s σ H _ us Q I rv (.inl ⟨_, rfl, q _ H (.refl rs) (.int _)⟩)
  · obtain ⟨v, rfl, r1⟩ := r.one
    cases r1
    exact call_int1 pins s σ H _ us Q I rv (.inr ⟨_, rfl, q _ H (.refl rs) (.int _)⟩)
theorem cd_len : CallD X (.builtin "len") bLen := by
  refine ⟨by (intro ds S Q Q' h q; unfold bLen at q ⊢; split at q <;> first | exact h _ _ q | exact ⟨q.1, h _ _ q.2⟩ | exact q.elim | ((try dsimp only at q ⊢); split at q <;> first | exact h _ _ q | exact q.elim)), fun pins s σ H xs us Q I rv h => ?_⟩
  obtain ⟨Z, S, ds, rs, r, q⟩ := h
  unfold bLen at q
  split at q <;> first | exact q.elim | skip
  · obtain ⟨v, rfl, r1⟩ := r.one
    obtain ⟨a, vs, rfl, hs, hl⟩ := r1.sqT
    exact call_len_seq pins s σ H _ us Q I rv ⟨a, vs, rfl, .inr hs, by rw [← hl.length]; exact q _ H (.refl rs) (.int _)⟩
  · obtain ⟨v, rfl, r1⟩ := r.one
    obtain ⟨a, vs, rfl, hs, hl⟩ := r1.sqL
    exact call_len_seq pins s σ H _ us Q I rv ⟨a, vs, rfl, .inl hs, by rw [← hl.length]; exact q _ H (.refl rs) (.int _)⟩
  · obtain ⟨v, rfl, r1⟩ := r.one
    cases r1
    try dsimp only at q
    split at q <;> first | exact q.elim | skip
    rename_i e
    obtain ⟨vs, hs, hl⟩ := Rp.sqR rs e
    exact call_len_seq pins s σ H _ us Q I rv ⟨_, vs, rfl, .inl hs, by rw [← hl.length]; exact q _ H (.refl rs) (.int _)⟩
  · obtain ⟨v, rfl, r1⟩ := r.one
    cases r1
    exact call_len_str pins s σ H _ us Q I rv ⟨_, rfl, q.1, q.2 _ H (.refl rs) (.int _)⟩
theorem cd_tup : CallD X (.type "tuple") bTup := by
  refine ⟨by (intro ds S Q Q' h q; unfold bTup at q ⊢; split at q <;> first | exact h _ _ q | exact ⟨q.1, h _ _ q.2⟩ | exact q.elim | ((try dsimp only at q ⊢); split at q <;> first | exact h _ _ q | exact q.elim)), fun pins s σ H xs us Q I rv h => ?_⟩
  obtain ⟨Z, S, ds, rs, r, q⟩ := h
  unfold bTup at q
  split at q <;> first | exact q.elim | skip
  · obtain ⟨v, rfl, r1⟩ := r.one
    obtain ⟨a, vs, rfl, hs, hl⟩ := r1.sqT
    exact call_tuple_of pins s σ H _ us Q I rv ⟨a, vs, rfl, .inr ⟨hs, q _ H (.refl rs) r1⟩⟩
  · obtain ⟨v, rfl, r1⟩ := r.one
    obtain ⟨a, vs, rfl, hs, hl⟩ := r1.sqL
    exact call_tuple_of pins s σ H _ us Q I rv ⟨a, vs, rfl, .inl ⟨hs, fun l hn => by
      obtain ⟨a2, r2⟩ := Rp.newT rs hn hl
      exact q _ _ a2 r2⟩⟩
  · obtain ⟨v, rfl, r1⟩ := r.one
    cases r1
    try dsimp only at q
    split at q <;> first | exact q.elim | skip
    rename_i e
    obtain ⟨vs, hs, hl⟩ := Rp.sqR rs e
    exact call_tuple_of pins s σ H _ us Q I rv ⟨_, vs, rfl, .inl ⟨hs, fun l hn => by
      obtain ⟨a2, r2⟩ := Rp.newT rs hn hl
      exact q _ _ a2 r2⟩⟩
theorem cd_lst : CallD X (.type "list") bLst := by
  refine ⟨by (intro ds S Q Q' h q; unfold bLst at q ⊢; split at q <;> first | exact h _ _ q | exact ⟨q.1, h _ _ q.2⟩ | exact q.elim | ((try dsimp only at q ⊢); split at q <;> first | exact h _ _ q | exact q.elim)), fun pins s σ H xs us Q I rv h => ?_⟩
  obtain ⟨Z, S, ds, rs, r, q⟩ := h
  unfold bLst at q
  split at q <;> first | exact q.elim | skip
  · obtain ⟨v, rfl, r1⟩ := r.one
    obtain ⟨a, vs, rfl, hs, hl⟩ := r1.sqT
    exact call_list_of pins s σ H _ us Q I rv ⟨a, vs, rfl, .inr hs, fun l hn => by
      obtain ⟨a2, r2⟩ := Rp.newL rs hn hl
      exact q _ _ a2 r2⟩
  · obtain ⟨v, rfl, r1⟩ := r.one
    obtain ⟨a, vs, rfl, hs, hl⟩ := r1.sqL
    exact call_list_of pins s σ H _ us Q I rv ⟨a, vs, rfl, .inl hs, fun l hn => by
      obtain ⟨a2, r2⟩ := Rp.newL rs hn hl
      exact q _ _ a2 r2⟩
  · obtain ⟨v, rfl, r1⟩ := r.one
    cases r1
    try dsimp only at q
    split at q <;> first | exact q.elim | skip
    rename_i e
    obtain ⟨vs, hs, hl⟩ := Rp.sqR rs e
    exact call_list_of pins s σ H _ us Q I rv ⟨_, vs, rfl, .inl hs, fun l hn => by
      obtain ⟨a2, r2⟩ := Rp.newL rs hn hl
      exact q _ _ a2 r2⟩
theorem bls_rp {K : Kz} {S : Sto} {H : Hp} : ∀ {xs : List D} {bs : List Bool} {vs : List V}, RpL K S H xs vs → blsOf xs = some bs → vs = bs.map V.bl
  | [], _, _, h, e => by
    cases h
    cases e
    rfl
  | d :: ds, bs, _, h, e => by
    cases h with
    | cons h1 h2 =>
      cases d <;> first | cases e | skip
      rename_i b
      unfold blsOf at e
      cases e2 : blsOf ds with
      | none => rw [e2] at e; cases e
      | some cs =>
        rw [e2] at e
        cases e
        cases h1
        rw [bls_rp h2 e2]
        rfl
theorem cd_all (hc : X.calm = true) : CallD X (.builtin "all") bAll := by
  refine ⟨by (intro ds S Q Q' h q; unfold bAll at q ⊢; split at q <;> first | exact h _ _ q | exact ⟨q.1, h _ _ q.2⟩ | exact q.elim | ((try dsimp only at q ⊢); split at q <;> first | exact h _ _ q | exact q.elim)), fun pins s σ H xs us Q I rv h => ?_⟩
  obtain ⟨Z, S, ds, rs, r, q⟩ := h
  unfold bAll at q
  split at q <;> first | exact q.elim | skip
  obtain ⟨v, rfl, r1⟩ := r.one
  obtain ⟨a, vs, rfl, hs, hl⟩ := r1.sqL
  split at q <;> first | exact q.elim | skip
  rename_i bs e
  exact cr_all hc pins s σ H _ us Q I rv ⟨a, bs, rfl, by rw [← bls_rp hl e]; exact hs, q _ H (.refl rs) (.bl _)⟩
end

/-! ### isinstance, a built-in class -/
def tyN : D → Option String
  | .non => some "NoneType"
  | .bl _ => some "bool"
  | .int _ => some "int"
  | .str _ => some "str"
  | .tup _ => some "tuple"
  | .lst _ => some "list"
  | _ => none
def isiD (T : String) (d : D) : Option Bool := (tyN d).bind fun a => kitB a T
def dIsi (T : String) (t : TEd) : TEd := fun env S Q E => t env S (fun d S1 => match isiD T d with | some b => Q (.bl b) S1 | none => False) E
theorem moIsi {T : String} {t : TEd} (h : MoE t) : MoE (dIsi T t) := fun env S Q Q' E E' hq he q => h _ _ _ _ _ _ (fun d S1 q1 => by
  split at q1
  · exact hq _ _ q1
  · exact q1.elim) he q
theorem tyX_of {K : Kz} {S : Sto} {H : Hp} {d : D} {v : V} {a : String} (r : Rp K S H d v) (e : tyN d = some a) : TyX K.K H v (.type a) := by
  cases r with
  | non => cases e; exact .base .non
  | bl b => cases e; exact .base (.bl b)
  | int i => cases e; exact .base (.int i)
  | str x => cases e; exact .base (.str x)
  | tup h1 _ =>
    cases e
    rcases h1 with (h1 | ⟨o, h1⟩) | ⟨o, its, n, h1, h2, _⟩
    · exact .base (.tup h1)
    · exact .fTuple h1
    · exact .kTuple h1 h2
  | lst h1 _ _ _ =>
    cases e
    rcases h1 with h1 | ⟨o, h1⟩
    · exact .base (.lst h1)
    · exact .base (.frz h1)
  | lstK h1 _ =>
    cases e
    obtain ⟨o, its, n, h1, h2, _⟩ := h1
    exact .kList h1 h2
  | ref a => cases e
  | obj a => cases e
section
variable {X : Cx} {W : WX} {e : Expr} {t : TEd} {pos p q : Pos} {x y : Str} {T : String}
variable {P : Program} {w : World} {K : PySem.W.Frag} {mg : Str → Option Value} {base : Heap} {N : List Str} {sc : Scope} {vw : Vw} {k : Nat}
theorem je_isi (c : JC P w K mg base N sc vw k X W) (hx : ("isinstance" : Str) ∈ vw.gs) (hm : mg "isinstance" = none) (hy : y ∈ vw.gs) (hmy : mg y = none) (hv : bootBuiltins y = some (.type T)) (ha : JE X W e t)
    (he : starEach [e, .Name y q] X.env = (false, eval e X.env) :: starEach [.Name y q] X.env := by rfl) : JE X W (.Call (.Name "isinstance" p) [e, .Name y q] [] pos) (dIsi T t) := by
  refine ⟨PE.imp (pe_callB call_isi (c.gl hx) (by rw [c.gg]; exact hm) (by decide +kernel) (pa_cons ha.pe (pa_cons (pe_bltn (v := .ty T) (c.gl hy) (by rw [c.gg]; exact hmy) hv rfl (c.sC.gl y hy).2.1 (c.sC.gl y hy).2.2) pa_nil) he) (c.sC.gl _ hx).2.1 (c.sC.gl _ hx).2.2 he) fun σ H Q h => ?_, moIsi ha.mo⟩
  obtain ⟨Z, env, S, re, rs, q⟩ := h
  refine LE.of ha.mo re rs q (fun d S1 v H1 q1 a1 r1 => ?_) fun x S1 c dx H1 q1 a1 r1 => q1 c dx H1 a1 r1
  unfold isiD at q1
  cases e1 : tyN d with
  | none => rw [e1] at q1; exact q1.elim
  | some a =>
    rw [e1] at q1
    dsimp only [Option.bind_some] at q1
    split at q1 <;> first | exact q1.elim | skip
    rename_i b e2
    exact ⟨v, .ty T, _, _, b, rfl, .ty T, tyX_of r1 e1, kit_ty e2, q1 _ H1 a1 (.bl _)⟩
end
end Bl

namespace Bl
open PySem PySem.Spec PyProof.Rows L2

/-! ### targets -/
inductive Tg where
  | nm (i : Nat)
  | tp (ts : List Tg)
def itemsOf (S : Sto) : D → Option (List D)
  | .tup ds => some ds
  | .lst ds => some ds
  | .ref a => S a
  | _ => none
mutual
def asgT (S : Sto) : Tg → D → Ev → Option Ev
  | .nm i, d, env => some (env.set i (some d))
  | .tp ts, d, env => match itemsOf S d with
    | some ds => asgL S ts ds env
    | none => none
def asgL (S : Sto) : List Tg → List D → Ev → Option Ev
  | [], [], env => some env
  | t :: ts, d :: ds, env => match asgT S t d env with
    | some env1 => asgL S ts ds env1
    | none => none
  | _, _, _ => none
end
mutual
def tgS : Tg → List Nat
  | .nm i => [i]
  | .tp ts => tgsS ts
def tgsS : List Tg → List Nat
  | [] => []
  | t :: ts => tgS t ++ tgsS ts
end
theorem asgL_len {S : Sto} : ∀ {ts : List Tg} {ds : List D} {env env' : Ev}, asgL S ts ds env = some env' → ds.length = ts.length
  | [], [], _, _, _ => rfl
  | [], _ :: _, _, _, h => by unfold asgL at h; cases h
  | _ :: _, [], _, _, h => by unfold asgL at h; cases h
  | t :: ts, d :: ds, env, env', h => by
    unfold asgL at h
    split at h
    · exact congrArg Nat.succ (asgL_len h)
    · cases h
theorem wipe_in {σ : L2.St} {i : Nat} {x : Option V} : ∀ {vs : List Nat}, i ∈ vs → wipe (σ.set i x) vs = wipe σ vs
  | v :: vs, h => by
    unfold wipe
    by_cases hv : i ∈ vs
    · rw [wipe_in hv]
    · have e : v = i := by
        rcases List.mem_cons.mp h with e | e
        · exact e.symm
        · exact absurd e hv
      subst e
      have : ∀ ws : List Nat, v ∉ ws → wipe (σ.set v x) ws = (wipe σ ws).set v x := by
        intro ws
        induction ws with
        | nil => intro _; rfl
        | cons u us ih =>
          intro hn
          have h1 : v ≠ u := fun z => hn (by simp [z])
          have h2 : v ∉ us := fun z => hn (by simp [z])
          unfold wipe
          rw [ih h2, List.set_comm _ _ h1]
      rw [this vs hv, List.set_set]
def LG (K : PySem.W.Frag) (g : Tg) : TG := fun v σ H Q => ∃ Z env S d env', RE ⟨K, Z⟩ S H env σ ∧ RS ⟨K, Z⟩ S H ∧ Rp ⟨K, Z⟩ S H d v ∧ asgT S g d env = some env' ∧
  ∀ σ', RE ⟨K, Z⟩ S H env' σ' → (∀ vs : List Nat, (∀ i ∈ tgS g, i ∈ vs) → wipe σ' vs = wipe σ vs) → Q σ' H
def LGs (K : PySem.W.Frag) (gs : List Tg) : TGs := fun us σ H Q => ∃ Z env S ds env', RE ⟨K, Z⟩ S H env σ ∧ RS ⟨K, Z⟩ S H ∧ RpL ⟨K, Z⟩ S H ds us ∧ asgL S gs ds env = some env' ∧
  ∀ σ', RE ⟨K, Z⟩ S H env' σ' → (∀ vs : List Nat, (∀ i ∈ tgsS gs, i ∈ vs) → wipe σ' vs = wipe σ vs) → Q σ' H
structure JG (X : Cx) (tg : Expr) (g : Tg) : Prop where
  pg : PG X tg (LG X.K g)
structure JGs (X : Cx) (tgs : List Expr) (gs : List Tg) : Prop where
  pg : PGs X tgs (LGs X.K gs)
section
variable {P : Program} {w : World} {K : PySem.W.Frag} {mg : Str → Option Value} {base : Heap} {N : List Str} {sc : Scope} {vw : Vw} {k : Nat} {X : Cx} {W : WX}
theorem JC.loc (c : JC P w K mg base N sc vw k X W) {x : Str} (h : sc.names.lookup x = some .local ∨ sc.names.lookup x = some .cell ∧ ∀ y, X.fn y = true) : Loc X.env.scope x ∧ (X.fn x = true ∨ X.env.scope.names.lookup x = some .local) := by
  rw [c.ss]
  rcases h with h | h
  · exact ⟨.inl h, .inr h⟩
  · exact ⟨.inr h.1, .inl (h.2 x)⟩
theorem jg_name (c : JC P w K mg base N sc vw k X W) (i : Nat) {x : Str} {pos : Pos} (hi : N[i]? = some x) (hx : sc.names.lookup x = some .local ∨ sc.names.lookup x = some .cell ∧ ∀ y, X.fn y = true) : JG X (.Name x pos) (.nm i) := by
  obtain ⟨l1, l2⟩ := c.loc hx
  refine ⟨⟨fun pins s σ H v u Q I r h => ?_⟩⟩
  obtain ⟨Z, env, S, d, env', re, rs, rp, e, q⟩ := h
  refine (pg_name (i := i) (by rw [c.nn]; exact c.nd) (by rw [c.nn]; exact hi) l1 l2).run pins s σ H v u Q I r (q _ ?_ fun vs hv => wipe_in (hv i (by simp [tgS])))
  unfold asgT at e
  cases e
  exact re.set rp i
theorem jgs_nil : JGs X [] [] := by
  refine ⟨⟨fun pins s σ H v u Q I r h => ?_⟩⟩
  obtain ⟨Z, env, S, ds, env', re, rs, rp, e, q⟩ := h
  cases ds with
  | cons d ds => unfold asgL at e; cases e
  | nil =>
    cases rp
    unfold asgL at e
    cases e
    exact pgs_nil.run pins s σ H [] u Q I r ⟨rfl, q σ re fun _ _ => rfl⟩
theorem jgs_cons {e : Expr} {es : List Expr} {g : Tg} {gt : List Tg} (h1 : JG X e g) (h2 : JGs X es gt) (hs : (assignEach (e :: es) X.env).map (·.2) = assign e X.env :: (assignEach es X.env).map (·.2) := by rfl) : JGs X (e :: es) (g :: gt) := by
  refine ⟨⟨fun pins s σ H v u Q I r h => ?_⟩⟩
  obtain ⟨Z, env, S, ds, env', re, rs, rp, e0, q⟩ := h
  cases ds with
  | nil => unfold asgL at e0; cases e0
  | cons d ds =>
    cases rp with
    | cons rp1 rp2 =>
      unfold asgL at e0
      split at e0 <;> first | cases e0; done | skip
      rename_i env1 e1
      refine (pgs_cons h1.pg h2.pg hs).run pins s σ H _ u Q I r ⟨_, _, rfl, Z, env, S, d, env1, re, rs, rp1, e1, fun σ1 re1 w1 => ?_⟩
      exact ⟨Z, env1, S, ds, env', re1, rs, rp2, e0, fun σ2 re2 w2 => q σ2 re2 fun vs hv => by
        rw [w2 vs fun i hi => hv i (by unfold tgsS; exact List.mem_append_right _ hi), w1 vs fun i hi => hv i (by unfold tgsS; exact List.mem_append_left _ hi)]⟩
theorem jg_tup {es : List Expr} {n : Nat} {gt : List Tg} {pos : Pos} (hc : X.calm = true) (h : JGs X es gt) (hn : (assignEach es X.env).length = gt.length := by rfl) (hst : (assignEach es X.env).findIdx? (·.1) = none := by rfl) : JG X (.Tuple es n pos) (.tp gt) := by
  refine ⟨⟨fun pins s σ H v u Q I r h2 => ?_⟩⟩
  obtain ⟨Z, env, S, d, env', re, rs, rp, e, q⟩ := h2
  unfold asgT at e
  split at e <;> first | cases e; done | skip
  rename_i ds e1
  have ln := asgL_len e
  have fin : ∀ vs, RpL ⟨X.K, Z⟩ S H ds vs → LGs X.K gt vs σ H Q := fun vs rl => ⟨Z, env, S, ds, env', re, rs, rl, e, fun σ' r' w' => q σ' r' fun vs hv => w' vs fun i hi => hv i (by unfold tgS; exact hi)⟩
  cases rp with
  | tup h1 h2 =>
    unfold itemsOf at e1
    cases e1
    exact (pg_tup hc h.pg hn hst).run pins s σ H _ u Q I r ⟨_, _, rfl, h1, by rw [← h2.length]; exact ln, fin _ h2⟩
  | lst h1 _ _ h2 =>
    unfold itemsOf at e1
    cases e1
    exact (pg_lst hc h.pg hn hst).run pins s σ H _ u Q I r ⟨_, _, rfl, .inl h1, by rw [← h2.length]; exact ln, fin _ h2⟩
  | lstK h1 h2 =>
    unfold itemsOf at e1
    cases e1
    exact (pg_lst hc h.pg hn hst).run pins s σ H _ u Q I r ⟨_, _, rfl, SqL.ofK h1, by rw [← h2.length]; exact ln, fin _ h2⟩
  | ref a =>
    unfold itemsOf at e1
    obtain ⟨vs, h1, h2⟩ := rs.at_ a ds e1
    exact (pg_lst hc h.pg hn hst).run pins s σ H _ u Q I r ⟨_, _, rfl, SqL.of h1, by rw [← h2.length]; exact ln, fin _ h2⟩
  | _ => unfold itemsOf at e1; cases e1
end

/-! ### blocks -/
def sNx : TSd := fun env S N => N.nx env S
def sSeq (t u : TSd) : TSd := fun env S N => t env S { N with nx := fun e S1 => u e S1 N }
def sRet (t : TEd) : TSd := fun env S N => t env S N.rt fun x S1 => N.ex x env S1
def sRetN : TSd := fun _ S N => N.rt .non S
def sDrop (t : TEd) : TSd := fun env S N => t env S (fun _ S1 => N.nx env S1) fun x S1 => N.ex x env S1
def sIf (c : TTd) (t u : TSd) : TSd := fun env S N => c env S (fun b S1 => if b = true then t env S1 N else u env S1 N) fun x S1 => N.ex x env S1
def sBrk : TSd := fun env S N => N.bk env S
def sCnt : TSd := fun env S N => N.ct env S
def sAsg (t : TEd) (g : Tg) : TSd := fun env S N => t env S (fun d S1 => match asgT S1 g d env with
  | some e => N.nx e S1
  | none => False) fun x S1 => N.ex x env S1
/-- a, b = x, y with plain local names -/
def sPar (is : List Nat) (t : TAd) : TSd := fun env S N => t env S (fun ds S1 => match asgL S1 (is.map .nm) ds env with
  | some e => N.nx e S1
  | none => False) fun x S1 => N.ex x env S1
def sAug (i : Nat) (t : TEd) (f : F2) : TSd := fun env S N => match env[i]? with
  | some (some x) => t env S (fun y S1 => f x y S1 fun z S2 => N.nx (env.set i (some z)) S2) fun x S1 => N.ex x env S1
  | _ => False
def setD (o i v : D) (S : Sto) (Q : Sto → Prop) : Prop := match o, i with
  | .ref a, .int k => match S a with
    | some ds => match ixN ds.length k with
      | some j => Q (sup S a (ds.set j v))
      | none => False
    | none => False
  | _, _ => False
def sSub (te to ti : TEd) : TSd := fun env S N => te env S (fun v S1 => to env S1 (fun o S2 => ti env S2 (fun i S3 => setD o i v S3 fun S4 => N.nx env S4) fun x S3 => N.ex x env S3) fun x S2 => N.ex x env S2) fun x S1 => N.ex x env S1
/-- a list is grown no more -/
def sFrz (i : Nat) (t : TSd) : TSd := fun env S N => match env[i]? with
  | some (some (.ref a)) => match S a with
    | some ds => t (env.set i (some (.lst ds))) (sdel S a) N
    | none => False
  | _ => False
def sWhile (c : TTd) (b : TSd) : TSd := fun env S N => ∃ Wi : Nat → Ev → Sto → Prop, (∃ m, Wi m env S) ∧ ∀ m env S, Wi m env S → c env S (fun k S1 => if k = true then b env S1 { N with nx := fun e s => ∃ m', m' < m ∧ Wi m' e s, ct := fun e s => ∃ m', m' < m ∧ Wi m' e s, bk := N.nx } else N.nx env S1) fun x S1 => N.ex x env S1
def forD (g : Tg) (b : TSd) : List D → Ev → Sto → Nd → Prop
  | [], env, S, N => N.nx env S
  | d :: ds, env, S, N => match asgT S g d env with
    | some e1 => b e1 S { N with nx := fun e s => forD g b ds e s N, ct := fun e s => forD g b ds e s N, bk := N.nx }
    | none => False
def sFor (ti : TAd) (g : Tg) (b : TSd) : TSd := fun env S N => ti env S (fun ds S1 => forD g b ds env S1 N) fun x S1 => N.ex x env S1

theorem NdLe.refl (A : Nd) : NdLe A A := ⟨fun _ _ h => h, fun _ _ h => h, fun _ _ h => h, fun _ _ h => h, fun _ _ _ h => h⟩
theorem moNx : MoS sNx := fun env S A B l h => l.nx _ _ h
theorem moSeq {t u : TSd} (ht : MoS t) (hu : MoS u) : MoS (sSeq t u) := fun env S A B l h => ht env S { A with nx := fun e S1 => u e S1 A } { B with nx := fun e S1 => u e S1 B } ⟨fun e S1 q => hu _ _ _ _ l q, l.rt, l.bk, l.ct, l.ex⟩ h
theorem moRet {t : TEd} (ht : MoE t) : MoS (sRet t) := fun env S A B l h => ht _ _ _ _ _ _ l.rt (fun x S1 q => l.ex _ _ _ q) h
theorem moRetN : MoS sRetN := fun env S A B l h => l.rt _ _ h
theorem moDrop {t : TEd} (ht : MoE t) : MoS (sDrop t) := fun env S A B l h => ht _ _ _ _ _ _ (fun d S1 q => l.nx _ _ q) (fun x S1 q => l.ex _ _ _ q) h
theorem moIfS {c : TTd} {t u : TSd} (hc : MoE c) (ht : MoS t) (hu : MoS u) : MoS (sIf c t u) := fun env S A B l h => hc _ _ _ _ _ _ (fun b S1 q => by
  cases b
  · exact hu _ _ _ _ l q
  · exact ht _ _ _ _ l q) (fun x S1 q => l.ex _ _ _ q) h
theorem moAsg {t : TEd} {g : Tg} (ht : MoE t) : MoS (sAsg t g) := fun env S A B l h => ht _ _ _ _ _ _ (fun d S1 q => by
  split at q
  · exact l.nx _ _ q
  · exact q.elim) (fun x S1 q => l.ex _ _ _ q) h
theorem moPar {is : List Nat} {t : TAd} (ht : MoE t) : MoS (sPar is t) := fun env S A B l h => ht _ _ _ _ _ _ (fun d S1 q => by
  split at q
  · exact l.nx _ _ q
  · exact q.elim) (fun x S1 q => l.ex _ _ _ q) h
theorem moSetD {o i v : D} {S : Sto} {Q Q' : Sto → Prop} (h : ∀ S, Q S → Q' S) (q : setD o i v S Q) : setD o i v S Q' := by
  unfold setD at q ⊢
  split at q <;> first | exact q.elim | skip
  split at q <;> first | exact q.elim | skip
  split at q <;> first | exact q.elim | exact h _ q
theorem moSub' {te to ti : TEd} (h1 : MoE te) (h2 : MoE to) (h3 : MoE ti) : MoS (sSub te to ti) := fun env S A B l h => h1 _ _ _ _ _ _ (fun v S1 q1 => h2 _ _ _ _ _ _ (fun o S2 q2 => h3 _ _ _ _ _ _ (fun i S3 q3 => moSetD (fun S4 q4 => l.nx _ _ q4) q3)
  (fun x S3 q => l.ex _ _ _ q) q2) (fun x S2 q => l.ex _ _ _ q) q1) (fun x S1 q => l.ex _ _ _ q) h
theorem moFrz {i : Nat} {t : TSd} (ht : MoS t) : MoS (sFrz i t) := fun env S A B l h => by
  unfold sFrz at h ⊢
  split at h <;> first | exact h.elim | skip
  split at h <;> first | exact h.elim | exact ht _ _ _ _ l h
theorem moWhile {c : TTd} {b : TSd} (hc : MoE c) (hb : MoS b) : MoS (sWhile c b) := fun env S A B l h => by
  obtain ⟨Wi, h0, turn⟩ := h
  refine ⟨Wi, h0, fun m env S hw => hc _ _ _ _ _ _ (fun k S1 q => ?_) (fun x S1 q => l.ex _ _ _ q) (turn m env S hw)⟩
  cases k
  · exact l.nx _ _ q
  · exact hb _ _ { A with nx := fun e s => ∃ m', m' < m ∧ Wi m' e s, ct := fun e s => ∃ m', m' < m ∧ Wi m' e s, bk := A.nx } _ ⟨fun _ _ z => z, l.rt, l.nx, fun _ _ z => z, l.ex⟩ q
theorem moForD {g : Tg} {b : TSd} (hb : MoS b) : ∀ (ds : List D) (env : Ev) (S : Sto) (A B : Nd), NdLe A B → forD g b ds env S A → forD g b ds env S B
  | [], env, S, A, B, l, h => l.nx _ _ h
  | d :: ds, env, S, A, B, l, h => by
    unfold forD at h ⊢
    split at h <;> first | exact h.elim | skip
    exact hb _ _ { A with nx := fun e s => forD g b ds e s A, ct := fun e s => forD g b ds e s A, bk := A.nx } _ ⟨fun e s q => moForD hb ds e s A B l q, l.rt, l.nx, fun e s q => moForD hb ds e s A B l q, l.ex⟩ h
theorem moFor {ti : TAd} {g : Tg} {b : TSd} (ht : MoE ti) (hb : MoS b) : MoS (sFor ti g b) := fun env S A B l h => ht _ _ _ _ _ _ (fun ds S1 q => moForD hb ds env S1 A B l q) (fun x S1 q => l.ex _ _ _ q) h

section
variable {P : Program} {w : World} {K : PySem.W.Frag} {mg : Str → Option Value} {base : Heap} {N : List Str} {sc : Scope} {vw : Vw} {k : Nat} {X : Cx} {W : WX}
variable {st : Stmt} {rest a b : List Stmt} {t u : TSd} {e o i : Expr} {te to ti : TEd} {tc : TTd} {pos pos' : Pos}
theorem jb_nil : JB X W [] sNx := ⟨PSs.imp pss_nil fun N σ H h => by
  obtain ⟨Z, env, S, re, rs, q⟩ := h
  exact q σ H (.refl rs) re, moNx⟩
theorem jb_cons (h1 : JS X W st t) (h2 : JB X W rest u) : JB X W (st :: rest) (sSeq t u) := by
  refine ⟨PSs.imp (pss_cons h1.ps h2.ps) fun N σ H h => ?_, moSeq h1.mo h2.mo⟩
  obtain ⟨Z, env, S, re, rs, q⟩ := h
  refine LS.of h1.mo re rs q ⟨fun e S1 q1 σ1 H1 a1 r1 => ?_, fun _ _ z => z, fun _ _ z => z, fun _ _ z => z, fun _ _ _ z => z⟩
  exact LS.of h2.mo r1 a1.rs q1 (LN.after a1 N)
theorem jb_one (h1 : JS X W st t) : JB X W [st] t := ⟨pss_one h1.ps, h1.mo⟩
/-- exceptions out of an expression of a statement -/
theorem exS {K : Kz} {S S1 : Sto} {H H1 : Hp} {env : Ev} {σ : L2.St} {M : Ends} {x : Xc} {c : Value} {dx : Option Addr} (re : RE K S H env σ) (rs : RS K S H) (q : (LN K S H W M).ex x env S1) (a : Aft K S H S1 H1) (r : RX K S1 H1 x c dx) : W c dx σ H1 := q c dx σ H1 a (re.step a.st rs) r
theorem js_expr (he : JE X W e te) (hs : swapsWith e none pos.line X.env = pure false := by rfl) : JS X W (.Expr e pos) (sDrop te) := by
  refine ⟨PS.imp (ps_expr he.pe hs) fun N σ H h => ?_, moDrop he.mo⟩
  obtain ⟨Z, env, S, re, rs, q⟩ := h
  exact LE.of he.mo re rs q (fun d S1 v H1 q1 a1 r1 => q1 σ H1 a1 (re.step a1.st rs)) fun x S1 c dx H1 q1 a1 r1 => exS re rs q1 a1 r1
theorem js_ret (he : JE X W e te) : JS X W (.Return (some e) pos) (sRet te) := by
  refine ⟨PS.imp (ps_ret he.pe) fun N σ H h => ?_, moRet he.mo⟩
  obtain ⟨Z, env, S, re, rs, q⟩ := h
  exact LE.of he.mo re rs q (fun d S1 v H1 q1 a1 r1 => q1 v H1 a1 r1) fun x S1 c dx H1 q1 a1 r1 => exS re rs q1 a1 r1
theorem js_if {c : Expr} (hc : JT X W c tc) (ha : JB X W a t) (hb : JB X W b u) : JS X W (.If c a b pos) (sIf tc t u) := by
  refine ⟨PS.imp (ps_if hc.pt ha.ps hb.ps) fun N σ H h => ?_, moIfS hc.mo ha.mo hb.mo⟩
  obtain ⟨Z, env, S, re, rs, q⟩ := h
  refine LT.of hc.mo re rs q (fun c S1 H1 q1 a1 => ?_) fun x S1 c dx H1 q1 a1 r1 => exS re rs q1 a1 r1
  cases c with
  | true => exact iteT (LS.of ha.mo (re.step a1.st rs) a1.rs q1 (LN.after a1 N))
  | false => exact iteF (LS.of hb.mo (re.step a1.st rs) a1.rs q1 (LN.after a1 N))
theorem js_asg {tg : Expr} {g : Tg} (he : JE X W e te) (hg : JG X tg g) (hs : swapsWithSole [tg] e pos.line X.env = pure false := by rfl) (hw : swappedStores [tg] e X.env = pure none := by rfl) (h1 : (assignEach [tg] X.env).map (·.2) = [assign tg X.env] := by rfl) :
    JS X W (.Assign [tg] e pos) (sAsg te g) := by
  refine ⟨PS.imp (ps_asg he.pe hg.pg hs hw h1) fun N σ H h => ?_, moAsg he.mo⟩
  obtain ⟨Z, env, S, re, rs, q⟩ := h
  refine LE.of he.mo re rs q (fun d S1 v H1 q1 a1 r1 => ?_) fun x S1 c dx H1 q1 a1 r1 => exS re rs q1 a1 r1
  split at q1 <;> first | exact q1.elim | skip
  rename_i e1 ee
  exact ⟨Z, env, S1, d, e1, re.step a1.st rs, a1.rs, r1, ee, fun σ' r' _ => q1 σ' H1 a1 r'⟩
theorem js_set (c : JC P w K mg base N sc vw k X W) (j : Nat) {x : Str} (hi : N[j]? = some x) (hx : sc.names.lookup x = some .local ∨ sc.names.lookup x = some .cell ∧ ∀ y, X.fn y = true) (he : JE X W e te) (hs : swapsWith e (some (.Name x pos')) pos.line X.env = pure false := by rfl) :
    JS X W (.Assign [.Name x pos'] e pos) (sAsg te (.nm j)) := by
  obtain ⟨l1, l2⟩ := c.loc hx
  refine ⟨PS.imp (ps_set (i := j) (by rw [c.nn]; exact c.nd) (by rw [c.nn]; exact hi) l1 he.pe hs l2) fun N σ H h => ?_, moAsg he.mo⟩
  obtain ⟨Z, env, S, re, rs, q⟩ := h
  refine LE.of he.mo re rs q (fun d S1 v H1 q1 a1 r1 => ?_) fun x S1 c dx H1 q1 a1 r1 => exS re rs q1 a1 r1
  unfold asgT at q1
  exact q1 _ H1 a1 ((re.step a1.st rs).set r1 j)
theorem js_par {x y : Str} {p q : Expr} {ta : TAd} {px py pt : Pos} {kt k2 : Nat} {pt2 : Pos} (c : JC P w K mg base N sc vw k X W) (l j : Nat) (hl : N[l]? = some x) (hj : N[j]? = some y) (hlj : l ≠ j) (hx : sc.names.lookup x = some .local) (hy : sc.names.lookup y = some .local) (ha : JA X W [p, q] ta)
    (hw : swappedStores [.Tuple [.Name x px, .Name y py] kt pt] (.Tuple [p, q] k2 pt2) X.env = pure (some [x, y])) (hs : swapsWithSole [.Tuple [.Name x px, .Name y py] kt pt] (.Tuple [p, q] k2 pt2) pos.line X.env = pure false := by rfl) :
    JS X W (.Assign [.Tuple [.Name x px, .Name y py] kt pt] (.Tuple [p, q] k2 pt2) pos) (sPar [l, j] ta) := by
  refine ⟨PS.imp (ps_par c.calm (by rw [c.nn]; exact c.nd) (by rw [c.nn]; exact hl) (by rw [c.nn]; exact hj) hlj (by rw [c.ss]; exact hx) (by rw [c.ss]; exact hy) ha.pa hw hs) fun N σ H h => ?_, moPar ha.mo⟩
  obtain ⟨Z, env, S, re, rs, q⟩ := h
  refine LA.of ha.mo re rs q (fun ds S1 vs H1 q1 a1 r1 => ?_) fun x S1 c dx H1 q1 a1 r1 => exS re rs q1 a1 r1
  split at q1 <;> first | exact q1.elim | skip
  rename_i e1 ee
  have ln := asgL_len ee
  match ds, r1, ln, ee with
  | [d1, d2], r1, _, ee =>
    obtain ⟨v1, v2, rfl, r1, r2⟩ := r1.two
    refine ⟨v1, v2, rfl, ?_⟩
    simp only [List.map_cons, List.map_nil, asgL, asgT, Option.some.injEq] at ee
    subst ee
    exact q1 _ H1 a1 (((re.step a1.st rs).set r1 l).set r2 j)
theorem js_sub (ho : JE X W o to) (hi : JE X W i ti) (he : JE X W e te) (hs : swapsWithSole [.Subscript o i pos'] e pos.line X.env = pure false := by rfl) (hw : swappedStores [.Subscript o i pos'] e X.env = pure none := by rfl)
    (h1 : (assignEach [.Subscript o i pos'] X.env).map (·.2) = [assign (.Subscript o i pos') X.env] := by rfl)
    (ha : ∀ v, assign (.Subscript o i pos') X.env v = (do
      let ov ← holding [v] (eval o X.env)
      let iv ← holding [v, ov] (eval i X.env)
      standAt pos'
      holding [v, ov, iv] (setItem ov iv v)
      release [v, ov, iv] []) := by intro _; rfl) : JS X W (.Assign [.Subscript o i pos'] e pos) (sSub te to ti) := by
  refine ⟨PS.imp (ps_asg he.pe (pg_sub ho.pe hi.pe set_list ha) hs hw h1) fun N σ H h => ?_, moSub' he.mo ho.mo hi.mo⟩
  obtain ⟨Z, env, S, re, rs, q⟩ := h
  refine LE.of he.mo re rs q (fun d S1 v H1 q1 a1 r1 => ?_) fun x S1 c dx H1 q1 a1 r1 => exS re rs q1 a1 r1
  refine LE.of ho.mo (re.step a1.st rs) a1.rs q1 (fun d2 S2 ov H2 q2 a2 r2 => ?_) fun x S2 c dx H2 q2 a2 r2 => exS re rs q2 (a1.trans a2) r2
  have a12 := a1.trans a2
  refine LE.of hi.mo (re.step a12.st rs) a2.rs q2 (fun d3 S3 iv H3 q3 a3 r3 => ?_) fun x S3 c dx H3 q3 a3 r3 => exS re rs q3 (a12.trans a3) r3
  have a13 := a12.trans a3
  unfold setD at q3
  split at q3 <;> first | exact q3.elim | skip
  split at q3 <;> first | exact q3.elim | skip
  rename_i ad kk ds e0
  split at q3 <;> first | exact q3.elim | skip
  rename_i jj e1
  cases r2
  cases r3
  obtain ⟨vs, hl, rl⟩ := a3.rs.at_ _ _ e0
  have rv := Rp.step a3.st a2.rs _ _ (Rp.step a2.st a1.rs _ _ r1)
  refine ⟨_, vs, _, jj, rfl, rfl, hl, by rw [← rl.length]; exact e1, ?_⟩
  have a4 := Rp.putR a3.rs e0 (rl.set jj rv)
  exact q3 σ _ (a13.trans a4) (re.step (a13.trans a4).st rs)
theorem js_frz (j : Nat) (h : JS X W st t) : JS X W st (sFrz j t) := by
  refine ⟨PS.imp h.ps fun N σ H q => ?_, moFrz h.mo⟩
  obtain ⟨Z, env, S, re, rs, q⟩ := q
  unfold sFrz at q
  split at q <;> first | exact q.elim | skip
  rename_i ad ee
  split at q <;> first | exact q.elim | skip
  rename_i ds e1
  obtain ⟨a1, r1⟩ := Rp.frz rs e1
  obtain ⟨v, e2, rp⟩ := re.at_ j _ ee
  cases rp
  have re' : RE ⟨X.K, Z⟩ (sdel S ad) H (env.set j (some (.lst ds))) σ := by
    have z := (re.step a1.st rs).set r1 j
    have e3 : σ.set j (some (V.ref ad)) = σ := by
      obtain ⟨hl, e4⟩ := List.getElem?_eq_some_iff.mp e2
      rw [← e4]
      exact List.set_getElem_self hl
    rw [e3] at z
    exact z
  exact LS.of h.mo re' a1.rs q (LN.after a1 N)
theorem js_while {c : Expr} {body : List Stmt} (hd : JD P w K mg base N sc vw k X W) (hc : JT X W c tc) (hb : JB X W body t) : JS X W (.While c body [] pos) (sWhile tc t) := by
  refine ⟨PS.imp (ps_while hd.po hc.pt hb.ps) fun M σ H h => ?_, moWhile hc.mo hb.mo⟩
  obtain ⟨Z, env, S, re, rs, q⟩ := h
  obtain ⟨Wi, ⟨m0, w0⟩, turn⟩ := q
  refine ⟨fun m σ' H' => ∃ env' S', Aft ⟨X.K, Z⟩ S H S' H' ∧ RE ⟨X.K, Z⟩ S' H' env' σ' ∧ Wi m env' S', ⟨m0, env, S, .refl rs, re, w0⟩, fun m σ1 H1 hw => ?_⟩
  obtain ⟨env1, S1, a1, re1, w1⟩ := hw
  refine LT.of hc.mo re1 a1.rs (turn m env1 S1 w1) (fun b S2 H2 q2 a2 => ?_) fun x S2 c dx H2 q2 a2 r2 => q2 c dx σ1 H2 (a1.trans a2) (re1.step a2.st a1.rs) r2
  have a12 := a1.trans a2
  cases b with
  | false => exact iteF (q2 σ1 H2 a12 (re1.step a2.st a1.rs))
  | true =>
    refine iteT ⟨fun σ' H' => ∃ m', m' < m ∧ ∃ env' S', Aft ⟨X.K, Z⟩ S H S' H' ∧ RE ⟨X.K, Z⟩ S' H' env' σ' ∧ Wi m' env' S', fun σ' H' hh => hh, ?_⟩
    refine LS.of hb.mo (re1.step a2.st a1.rs) a2.rs q2 ⟨fun e s hh σ' H' a3 r3 => ?_, fun d s hh v H' a3 r3 => hh v H' (a12.trans a3) r3, fun e s hh σ' H' a3 r3 => hh σ' H' (a12.trans a3) r3, fun e s hh σ' H' a3 r3 => ?_, fun x e s hh c dx σ' H' a3 r3 rx => hh c dx σ' H' (a12.trans a3) r3 rx⟩
    · obtain ⟨m', hm, hw⟩ := hh
      exact ⟨m', hm, e, s, a12.trans a3, r3, hw⟩
    · obtain ⟨m', hm, hw⟩ := hh
      exact ⟨m', hm, e, s, a12.trans a3, r3, hw⟩
end

/-! ### what is walked -/
def WkD (K : Kz) (S : Sto) (H : Hp) (J : It) (ds : List D) : Prop := ∃ (G : Hp → Prop) (Y : Nat → Hp → V → Hp → Prop), Walk J ds.length G Y ∧ (∀ S' H', Step S H S' H' → G H') ∧
  ∀ (K' : Kz) i S' H' x H'', K'.K = K.K → Step S H S' H' → RS K' S' H' → (∀ d v, Rp K S H d v → Rp K' S' H' d v) → i < ds.length → Y i H' x H'' → Aft K' S' H' S' H'' ∧ ∃ d, ds[i]? = some d ∧ Rp K' S' H'' d x
def LI (K : PySem.W.Frag) (W : WX) (t : TAd) : TI := fun σ H R => ∃ Z env S, RE ⟨K, Z⟩ S H env σ ∧ RS ⟨K, Z⟩ S H ∧ t env S (fun ds S' => ∀ J H', Aft ⟨K, Z⟩ S H S' H' → WkD ⟨K, Z⟩ S' H' J ds → R J H') (PX ⟨K, Z⟩ S H σ W)
structure JI (X : Cx) (W : WX) (tg iter : Expr) (t : TAd) : Prop where
  pi : PI X tg iter (LI X.K W t)
  mo : MoE t
theorem LI.of {K : Kz} {W : WX} {S : Sto} {H : Hp} {env : Ev} {σ : L2.St} {t : TAd} (mo : MoE t) (re : RE K S H env σ) (rs : RS K S H) {C : List D → Sto → Prop} {E : EK} {R : It → Hp → Prop} (h : t env S C E)
    (hc : ∀ ds S1 J H1, C ds S1 → Aft K S H S1 H1 → WkD K S1 H1 J ds → R J H1) (he : ∀ x S1 c dx H1, E x S1 → Aft K S H S1 H1 → RX K S1 H1 x c dx → W c dx σ H1) : LI K.K W t σ H R :=
  ⟨K.Z, env, S, re, rs, mo _ _ _ _ _ _ (fun ds S1 q J H1 a wk => hc ds S1 J H1 q a wk) (fun x S1 q c dx H1 a r => he x S1 c dx H1 q a r) h⟩
section
variable {P : Program} {w : World} {K : PySem.W.Frag} {mg : Str → Option Value} {base : Heap} {N : List Str} {sc : Scope} {vw : Vw} {k : Nat} {X : Cx} {W : WX}
theorem js_for {tg iter : Expr} {body : List Stmt} {tb : TSd} {ti : TAd} {g : Tg} {pos : Pos} (hd : JD P w K mg base N sc vw k X W) (hi : JI X W tg iter ti) (hg : JG X tg g) (hb : JB X W body tb) (hs : ∀ x, foldedSetIterable iter X.env x = pure x := by intro _; rfl) : JS X W (.For tg iter body [] pos) (sFor ti g tb) := by
  refine ⟨PS.imp (ps_for hd.po hd.calm hi.pi hg.pg hb.ps hs) fun M σ H h => ?_, moFor hi.mo hb.mo⟩
  obtain ⟨Z, env, S, re, rs, q⟩ := h
  refine LI.of hi.mo re rs q (fun ds S1 J H1 q1 a1 wk => ?_) fun x S1 c dx H1 q1 a1 r1 => exS re rs q1 a1 r1
  obtain ⟨G, Y, wk, hG, hY⟩ := wk
  refine for_it wk (fun i σ' H' => ∃ env' S', Aft ⟨X.K, Z⟩ S1 H1 S' H' ∧ RE ⟨X.K, Z⟩ S' H' env' σ' ∧ forD g tb (ds.drop i) env' S' (LN ⟨X.K, Z⟩ S H W M)) ⟨env, S1, .refl a1.rs, re.step a1.st rs, q1⟩ (fun i σ' H' _ ⟨env', S', a, _, _⟩ => hG S' H' a.st) (fun i x σ' H' H'' hi hp y => ?_) fun σ' H' hp => ?_
  · obtain ⟨env', S', a, re', q'⟩ := hp
    obtain ⟨a2, d, ed, rd⟩ := hY ⟨X.K, Z⟩ i S' H' x H'' rfl a.st a.rs (fun d v r => Rp.step a.st a1.rs d v r) hi y
    have e0 : ds.drop i = d :: ds.drop (i + 1) := by
      rw [List.drop_eq_getElem_cons hi]
      congr 1
      rw [List.getElem?_eq_getElem hi] at ed
      exact Option.some.inj ed
    rw [e0] at q'
    unfold forD at q'
    split at q' <;> first | exact q'.elim | skip
    rename_i e1 ee
    have a3 := a.trans a2
    have a13 := a1.trans a3
    refine ⟨Z, env', S', d, e1, re'.step a2.st a.rs, a2.rs, rd, ee, fun σ2 r2 _ => ?_⟩
    refine LS.of hb.mo r2 a2.rs q' ⟨fun e s hh σ3 H3 a4 r3 => ⟨e, s, a3.trans a4, r3, hh⟩, fun d s hh v H3 a4 r3 => hh v H3 (a13.trans a4) r3, fun e s hh σ3 H3 a4 r3 => hh σ3 H3 (a13.trans a4) r3, fun e s hh σ3 H3 a4 r3 => ⟨e, s, a3.trans a4, r3, hh⟩, fun x e s hh c dx σ3 H3 a4 r3 rx => hh c dx σ3 H3 (a13.trans a4) r3 rx⟩
  · obtain ⟨env', S', a, re', q'⟩ := hp
    rw [List.drop_length] at q'
    unfold forD at q'
    exact q' σ' H' (a1.trans a) re'

/-! #### iterators -/
theorem it_list {tg : Expr} {pins : List (Addr × Obj)} {σ : L2.St} {H : Hp} {s : Shared} {R : It → Hp → Prop} {a : Addr} {xs : List V} (I : Inv X pins σ H s) (hq : SqL X.K H a xs) (q : R (Itl X.K a) H) : wpAny (model X.prog X.w) X.A (pyIter (.ref a)) (PIE X pins σ tg R) X.xe s := by
  obtain ⟨its, _, pln, _⟩ := I.list hq
  refine wpAny_pyIter_list pln.isList ⟨s.heap.objs.size, [s.heap.objs.size], _, _, H, rfl, I.kept (t' := s.toks) fun _ _ e => Heap.get?_push_of_some _ e, turn_list a _, ⟨_, Heap.get?_push_size _ rfl, rfl, rfl⟩, fun b hb => ?_, q⟩
  obtain rfl : b = s.heap.objs.size := by simpa using hb
  exact I.fpOk (Nat.le_refl _) (I.hok.fresh (Nat.le_refl _))
theorem it_tup {tg : Expr} {pins : List (Addr × Obj)} {σ : L2.St} {H : Hp} {s : Shared} {R : It → Hp → Prop} {a : Addr} {xs : List V} (I : Inv X pins σ H s) (hq : SqT X.K H a xs) (q : R (Itt X.K a) H) : wpAny (model X.prog X.w) X.A (pyIter (.ref a)) (PIE X pins σ tg R) X.xe s := by
  obtain ⟨its, _, pln, _⟩ := I.tuple hq
  refine wpAny_pyIter_tuple (show s.heap.IsTuple a its.toArray from pln) ⟨s.heap.objs.size, [s.heap.objs.size], _, _, H, rfl, I.kept (t' := s.toks) fun _ _ e => Heap.get?_push_of_some _ e, turn_tuple a _, ⟨_, Heap.get?_push_size _ rfl, rfl, rfl⟩, fun b hb => ?_, q⟩
  obtain rfl : b = s.heap.objs.size := by simpa using hb
  exact I.fpOk (Nat.le_refl _) (I.hok.fresh (Nat.le_refl _))
/-- a list or a tuple that stands still -/
def iVal (t : TEd) : TAd := fun env S Q E => t env S (fun d S1 => match d with
  | .tup ds => Q ds S1
  | .lst ds => Q ds S1
  | _ => False) E
theorem moIVal {t : TEd} (ht : MoE t) : MoE (iVal t) := fun env S Q Q' E E' h he q => ht _ _ _ _ _ _ (fun d S1 q1 => by
  cases d <;> first | exact h _ _ q1 | exact q1) he q
theorem wk_at {K : Kz} {S : Sto} {H : Hp} {J : It} {G : Hp → Prop} {ds : List D} {vs : List V} (rl : RpL K S H ds vs) (wk : Walk J vs.length G (YAt vs)) (hG : ∀ S' H', Step S H S' H' → G H') : WkD K S H J ds := by
  refine ⟨G, YAt vs, by rw [rl.length]; exact wk, hG, fun K' i S' H' x H'' _ _ rs' tr hi y => ?_⟩
  obtain ⟨rfl, e⟩ := y
  obtain ⟨d, e1, r1⟩ := rl.get' e
  exact ⟨.refl rs', d, e1, tr d x r1⟩
theorem wk_list {K : Kz} {S : Sto} {H : Hp} {a : Addr} {ds : List D} (r : Rp K S H (.lst ds) (.ref a)) : WkD K S H (Itl K.K a) ds := by
  cases r with
  | lst h1 h2 _ h4 => exact wk_at h4 walk_list fun S' H' st => .inl (st.rdL h1 h2).1
  | lstK h1 h2 => exact wk_at h2 walk_list fun S' H' st => SqL.ofK h1
theorem wk_tup {K : Kz} {S : Sto} {H : Hp} {a : Addr} {ds : List D} (rs : RS K S H) (r : Rp K S H (.tup ds) (.ref a)) : WkD K S H (Itt K.K a) ds := by
  cases r with
  | tup h1 h2 => exact wk_at h2 walk_tup fun S' H' st => st.sqT rs h1
theorem ji_val {tg e : Expr} {te : TEd} (he : JE X W e te) : JI X W tg e (iVal te) := by
  refine ⟨⟨fun pins s σ H R I h => ?_⟩, moIVal he.mo⟩
  obtain ⟨Z, env, S, re, rs, q⟩ := h
  refine thn (he.pe.run pins s σ H _ I (LE.of he.mo re rs q (R := fun v H1 => ∃ d S1, Aft ⟨X.K, Z⟩ S H S1 H1 ∧ Rp ⟨X.K, Z⟩ S1 H1 d v ∧ match d with
    | .tup ds => ∀ J H', Aft ⟨X.K, Z⟩ S H S1 H' → WkD ⟨X.K, Z⟩ S1 H' J ds → R J H'
    | .lst ds => ∀ J H', Aft ⟨X.K, Z⟩ S H S1 H' → WkD ⟨X.K, Z⟩ S1 H' J ds → R J H'
    | _ => False) (fun d S1 v H1 q1 a1 r1 => ⟨d, S1, a1, r1, q1⟩) fun x S1 c dx H1 q1 a1 r1 => q1 c dx H1 a1 r1)) fun u s1 ⟨v, H1, I1, ru, d, S1, a1, r1, q1⟩ => ?_
  cases d <;> first | exact q1.elim | skip
  · obtain ⟨a, vs, rfl, hq, _⟩ := r1.sqT
    cases ru
    exact it_tup I1 hq (q1 _ H1 a1 (wk_tup a1.rs r1))
  · obtain ⟨a, vs, rfl, hq, _⟩ := r1.sqL
    cases ru
    exact it_list I1 hq (q1 _ H1 a1 (wk_list r1))
/-! ranges -/
def rngD (lo : Int) (n : Nat) : List D := (List.range n).map fun i : Nat => D.int (lo + i)
def iR1 (t : TAd) : TAd := fun env S Q E => t env S (fun ds S1 => match ds with
  | [.int j] => -(2 ^ 62) ≤ j ∧ j < 2 ^ 62 ∧ Q (rngD 0 j.toNat) S1
  | _ => False) E
def iR2 (t : TAd) : TAd := fun env S Q E => t env S (fun ds S1 => match ds with
  | [.int i, .int j] => (-(2 ^ 62) ≤ i ∧ i < 2 ^ 62 ∧ -(2 ^ 62) ≤ j ∧ j < 2 ^ 62) ∧ Q (rngD i (j - i).toNat) S1
  | _ => False) E
theorem moR1 {t : TAd} (ht : MoE t) : MoE (iR1 t) := fun env S Q Q' E E' h he q => ht _ _ _ _ _ _ (fun ds S1 q1 => by
  split at q1
  · exact ⟨q1.1, q1.2.1, h _ _ q1.2.2⟩
  · exact q1.elim) he q
theorem moR2 {t : TAd} (ht : MoE t) : MoE (iR2 t) := fun env S Q Q' E E' h he q => ht _ _ _ _ _ _ (fun ds S1 q1 => by
  split at q1
  · exact ⟨q1.1, h _ _ q1.2⟩
  · exact q1.elim) he q
theorem wk_rng {K : Kz} {S : Sto} {H : Hp} {lo : Int} {n : Nat} : WkD K S H (Itr lo n) (rngD lo n) := by
  have hl : (rngD lo n).length = n := by simp [rngD]
  refine ⟨fun _ => True, YFn fun i => .int (lo + i), by rw [hl]; exact walk_range, fun _ _ _ => trivial, fun K' i S' H' x H'' _ _ rs' tr hi y => ?_⟩
  obtain ⟨rfl, rfl⟩ := y
  rw [hl] at hi
  exact ⟨.refl rs', .int (lo + i), by simp [rngD, hi], .int _⟩
theorem PI.imp {X : Cx} {tg e : Expr} {t u : TI} (h : PI X tg e t) (k : ∀ σ H Q, u σ H Q → t σ H Q) : PI X tg e u := ⟨fun pins s σ H Q I q => h.run pins s σ H Q I (k σ H Q q)⟩
theorem ji_r1 {tg e : Expr} {ta : TAd} {p pos : Pos} (c : JC P w K mg base N sc vw k X W) (hx : ("range" : Str) ∈ vw.gs) (hm : mg "range" = none) (ha : JA X W [e] ta) (hs : starEach [e] X.env = [(false, eval e X.env)] := by rfl) : JI X W tg (.Call (.Name "range" p) [e] [] pos) (iR1 ta) := by
  refine ⟨PI.imp (pi_range1 (c.gl hx) (by rw [c.gg]; exact hm) ha.pa hs) fun σ H R h => ?_, moR1 ha.mo⟩
  obtain ⟨Z, env, S, re, rs, q⟩ := h
  refine LA.of ha.mo re rs q (fun ds S1 vs H1 q1 a1 r1 => ?_) fun x S1 c dx H1 q1 a1 r1 => q1 c dx H1 a1 r1
  split at q1 <;> first | exact q1.elim | skip
  obtain ⟨v, rfl, r2⟩ := r1.one
  cases r2
  exact ⟨_, rfl, q1.1, q1.2.1, q1.2.2 _ H1 a1 wk_rng⟩
end

/-! ### list comprehensions -/
def wipeD (env : Ev) : List Nat → Ev
  | [] => env
  | v :: vs => (wipeD env vs).set v none
theorem RE.wipe {K : Kz} {S : Sto} {H : Hp} {env : Ev} {σ : L2.St} (re : RE K S H env σ) : ∀ vs : List Nat, RE K S H (wipeD env vs) (wipe σ vs)
  | [] => re
  | v :: vs => (RE.wipe re vs).unset v
abbrev EF : EK := fun _ _ => False
def lcGo (g : Tg) (tt : TTd) (te : TEd) (env : Ev) : List D → Sto → (List D → Sto → Prop) → Prop
  | [], S, Q => Q [] S
  | d :: ds, S, Q => match asgT S g d env with
    | some e1 => tt e1 S (fun b S1 => if b = true then te e1 S1 (fun y S2 => lcGo g tt te env ds S2 fun ys S3 => Q (y :: ys) S3) EF else lcGo g tt te env ds S1 Q) EF
    | none => False
def dLc (ti : TAd) (g : Tg) (tt : TTd) (te : TEd) (vs : List Nat) : TEd := fun env S Q E => ti env S (fun ds S1 => ds.length < sizeLine ∧ lcGo g tt te (wipeD env vs) ds S1 fun ys S2 => Q (.lst ys) S2) E
/-- the list that is made is to be grown -/
def dLcR (ti : TAd) (g : Tg) (tt : TTd) (te : TEd) (vs : List Nat) : TEd := fun env S Q E => ti env S (fun ds S1 => ds.length < sizeLine ∧ lcGo g tt te (wipeD env vs) ds S1 fun ys S2 => ∀ a, S2 a = none → Q (.ref a) (sup S2 a ys)) E
theorem moLcGo {g : Tg} {tt : TTd} {te : TEd} (ht : MoE tt) (he : MoE te) (env : Ev) : ∀ (ds : List D) (S : Sto) (Q Q' : List D → Sto → Prop), (∀ ys S, Q ys S → Q' ys S) → lcGo g tt te env ds S Q → lcGo g tt te env ds S Q'
  | [], S, Q, Q', h, q => h _ _ q
  | d :: ds, S, Q, Q', h, q => by
    unfold lcGo at q ⊢
    split at q <;> first | exact q.elim | skip
    refine ht _ _ _ _ _ _ (fun b S1 q1 => ?_) (fun _ _ z => z) q
    cases b with
    | false => exact iteF (moLcGo ht he env ds S1 Q Q' h q1)
    | true => exact iteT (he _ _ _ _ _ _ (fun y S2 q2 => moLcGo ht he env ds S2 _ _ (fun ys S3 q3 => h _ _ q3) q2) (fun _ _ z => z) q1)
theorem moLc {ti : TAd} {g : Tg} {tt : TTd} {te : TEd} {vs : List Nat} (hi : MoE ti) (ht : MoE tt) (he : MoE te) : MoE (dLc ti g tt te vs) := fun env S Q Q' E E' h hx q => hi _ _ _ _ _ _ (fun ds S1 q1 => ⟨q1.1, moLcGo ht he _ _ _ _ _ (fun ys S2 q2 => h _ _ q2) q1.2⟩) hx q
def tYesD : TTd := fun _ S Q _ => Q true S
theorem moYesD : MoE tYesD := fun env S Q Q' E E' h he q => h _ _ q
structure JTs (X : Cx) (W : WX) (ifs : List Expr) (t : TTd) : Prop where
  pt : PTs X ifs (LT X.K W t)
  mo : MoE t
abbrev W0 : WX := fun _ _ _ _ => False
theorem jts_nil {X : Cx} {W : WX} : JTs X W [] tYesD := ⟨⟨fun pins s σ H Q I h => by
  obtain ⟨Z, env, S, re, rs, q⟩ := h
  exact pts_nil.run pins s σ H Q I (q H (.refl rs))⟩, moYesD⟩
/-- the turns of a comprehension, the new list at p out of sight -/
theorem lc_run {K : Kz} {J : It} {S : Sto} {H : Hp} {g : Tg} {tt : TTd} {te : TEd} {vs : List Nat} {env : Ev} {σ : L2.St} {ds : List D} {p : Addr} {Qd : Hp → Prop} {QQ : List D → Sto → Prop} (ht : MoE tt) (he : MoE te) (hgv : ∀ i ∈ tgS g, i ∈ vs) (re : RE K S H env σ) (rs : RS K S H) (wk : WkD K S H J ds) (hp : H p = none)
    (hl : ds.length < sizeLine) (h : lcGo g tt te (wipeD env vs) ds S QQ)
    (hd : ∀ S' H' acc accD, QQ accD S' → Step S H S' H' → RS (K.more p) S' H' → H' p = some (.lst acc) → RpL (K.more p) S' H' accD acc → Qd H') :
    ∃ Wi : Nat → Nat → Hp → Prop, (∃ m, Wi 0 m (upd H p (.lst []))) ∧ ∀ i m H, Wi i m H →
      (J.stop i H ∧ Qd H) ∨ (J.go i H ∧ ∃ Nx : Hp → Prop, (∀ H', Nx H' → ∃ m', m' < m ∧ Wi (i + 1) m' H') ∧ ∀ x H', J.yld i H x H' → LG K.K g x (wipe σ vs) H' fun σ2 H2 => wipe σ2 vs = wipe σ vs ∧ LT K.K W0 tt σ2 H2 fun b H3 =>
        if b = true then LE K.K W0 te σ2 H3 fun y H4 => ∃ acc, H4 p = some (.lst acc) ∧ acc.length < sizeLine ∧ Nx (upd H4 p (.lst (acc ++ [y]))) else Nx H3) := by
  obtain ⟨G, Y, wk, hG, hY⟩ := wk
  refine lc_it wk (fun i H' => ∃ S' acc accD, H' p = some (.lst acc) ∧ RpL (K.more p) S' H' accD acc ∧ accD.length ≤ i ∧ Step S H S' H' ∧ RS (K.more p) S' H' ∧ (∀ d v, Rp K S H d v → Rp (K.more p) S' H' d v) ∧ lcGo g tt te (wipeD env vs) (ds.drop i) S' fun ys S2 => QQ (accD ++ ys) S2)
    ⟨S, [], [], upd_same, .nil, Nat.le_refl _, fun b o e n => ⟨n, by rw [upd_ne (ne_of_none e hp)]; exact e⟩, rs.hide hp, fun d v r => Rp.hide hp d v r, h⟩ (fun i H' _ ⟨S', _, _, _, _, _, st, _⟩ => hG S' H' st) (fun i x H' H'' hi hPv y => ?_) fun H' hPv => ?_
  · obtain ⟨S', acc, accD, e1, rl, la, st, rs', tr, q⟩ := hPv
    obtain ⟨a2, d, ed, rd⟩ := hY (K.more p) i S' H' x H'' rfl st rs' tr hi y
    have e0 : ds.drop i = d :: ds.drop (i + 1) := by
      rw [List.drop_eq_getElem_cons hi]
      congr 1
      rw [List.getElem?_eq_getElem hi] at ed
      exact Option.some.inj ed
    rw [e0] at q
    unfold lcGo at q
    split at q <;> first | exact q.elim | skip
    rename_i env1 ee
    have re' : RE (K.more p) S' H' env σ := ⟨re.len, fun j d e => by
      obtain ⟨v, e2, r⟩ := re.at_ j d e
      exact ⟨v, e2, tr d v r⟩⟩
    have np : S' p = none := (rs'.hid p (.inr rfl)).1
    refine ⟨fun b => K.Z b ∨ b = p, wipeD env vs, S', d, env1, (re'.wipe vs).step a2.st rs', a2.rs, rd, ee, fun σ2 r2 w2 => ⟨?_, ?_⟩⟩
    · rw [w2 vs hgv]
      have z : ∀ (σ : L2.St) (vs : List Nat), wipe (wipe σ vs) vs = wipe σ vs := by
        intro σ vs
        have z2 : ∀ us : List Nat, (∀ u ∈ us, u ∈ vs) → wipe (wipe σ us) vs = wipe σ vs := by
          intro us
          induction us with
          | nil => intro _; rfl
          | cons u us ih =>
            intro hu
            show wipe ((wipe σ us).set u none) vs = _
            rw [wipe_in (hu u (by simp)), ih fun v hv => hu v (by simp [hv])]
        exact z2 vs fun _ h => h
      exact z σ vs
    refine LT.of (K := K.more p) ht r2 a2.rs q (fun b S3 H3 q3 a3 => ?_) fun x S3 c dx H3 q3 _ _ => q3
    have a23 := a2.trans a3
    have e3 : H3 p = some (.lst acc) := (a23.st p _ e1 np).2
    have st3 : Step S H S3 H3 := st.trans a23.st
    cases b with
    | false =>
      refine iteF ⟨S3, acc, accD, e3, RpL.step a23.st rs' _ _ rl, Nat.le_succ_of_le la, st3, a3.rs, fun d v r => Rp.step a23.st rs' _ _ (tr d v r), q3⟩
    | true =>
      refine iteT (LE.of (K := K.more p) he (r2.step a3.st a2.rs) a3.rs q3 (fun yD S4 yv H4 q4 a4 r4 => ?_) fun x S4 c dx H4 q4 _ _ => q4)
      have a24 := a23.trans a4
      have e4 : H4 p = some (.lst acc) := (a24.st p _ e1 np).2
      have lacc : acc.length ≤ i := by rw [← rl.length]; exact la
      refine ⟨acc, e4, by omega, S4, acc ++ [yv], accD ++ [yD], upd_same, ?_, ?_, ?_, a4.rs.grow e4, fun d v r => Rp.grow e4 _ _ (Rp.step a24.st rs' _ _ (tr d v r)), ?_⟩
      · exact RpL.grow e4 _ _ ((RpL.step a24.st rs' _ _ rl).append (.cons r4 .nil))
      · rw [List.length_append, List.length_singleton]; omega
      · intro b o e n
        obtain ⟨n1, h1⟩ := (st.trans a24.st) b o e n
        exact ⟨n1, by rw [upd_ne (ne_of_none e hp)]; exact h1⟩
      · simpa only [List.append_assoc, List.singleton_append] using q4
  · obtain ⟨S', acc, accD, e1, rl, la, st, rs', tr, q⟩ := hPv
    rw [List.drop_length] at q
    unfold lcGo at q
    rw [List.append_nil] at q
    exact hd S' H' acc accD q st rs' e1 rl
section
variable {P : Program} {w : World} {K : PySem.W.Frag} {mg : Str → Option Value} {base : Heap} {N : List Str} {sc : Scope} {vw : Vw} {k : Nat} {X : Cx} {W : WX}
variable {elt tg iter : Expr} {ifs : List Expr} {scope : Scope} {pos : Pos} {ti : TAd} {g : Tg} {tt : TTd} {te : TEd} {own : List (Str × Nat)} {vw2 : Vw}
/-- the block's own context -/
theorem JC.blk (c : JC P w K mg base N sc vw k X W) (s2 : Sc N (relS scope sc) vw2) (hk : scope.kind = .function) (s : Shared) (H : Hp) (C : Addr) (cl : List (Str × Addr)) (fp : List Addr) : JC P w K mg base N (relS scope sc) vw2 k (X.blk s H scope (compEnvC scope cl C X.env) fp) W0 where
  prog := c.prog
  ww := c.ww
  kk := c.kk
  gg := c.gg
  bb := c.bb
  nn := c.nn
  ss := by rw [← c.ss]; rfl
  sC := s2
  nd := c.nd
  calm := c.calm
  room := c.room
  tk := takes0
  kd := hk
theorem lcOf (hi : JI X W tg iter ti) (ht : MoE tt) (he : MoE te) (hgv : ∀ i ∈ tgS g, i ∈ own.map (·.2)) {σ : L2.St} {H : Hp} {Q : VK} (h : LE X.K W (dLc ti g tt te (own.map (·.2))) σ H Q) : tLc (LI X.K W ti) (LG X.K g) (LT X.K W0 tt) (LE X.K W0 te) (own.map (·.2)) σ H Q := by
  obtain ⟨Z, env, S, re, rs, q⟩ := h
  refine LI.of hi.mo re rs q (fun ds S1 J H1 q1 a1 wk => ?_) fun x S1 c dx H1 q1 a1 r1 => q1 c dx H1 a1 r1
  intro p hp
  refine lc_run (K := ⟨X.K, Z⟩) ht he hgv (re.step a1.st rs) a1.rs wk hp q1.1 q1.2 fun S' H' acc accD qq st rs' e rl => ?_
  exact qq _ H' (a1.trans ⟨st, rs'.show_⟩) (Rp.made rs' e (a1.rs.nz hp) rl)
theorem je_lc (c : JC P w K mg base N sc vw k X W) (ok : blkC N sc scope own = true) (s2 : Sc N (relS scope sc) vw2) (hgv : ∀ i ∈ tgS g, i ∈ own.map (·.2)) (hi : JI X W tg iter ti)
    (hg : ∀ X2, JC P w K mg base N (relS scope sc) vw2 k X2 W0 → JG X2 tg g) (ht : ∀ X2, JC P w K mg base N (relS scope sc) vw2 k X2 W0 → JTs X2 W0 ifs tt) (he : ∀ X2, JC P w K mg base N (relS scope sc) vw2 k X2 W0 → JE X2 W0 elt te) (mt : MoE tt) (me : MoE te)
    (hs : ∀ x, foldedSetIterable iter X.env x = pure x := by intro _; rfl) : JE X W (.ListComp elt [⟨tg, iter, ifs, 0⟩] scope pos) (dLc ti g tt te (own.map (·.2))) := by
  have bo : BlkOk X.N X.env.scope scope own := by rw [c.nn, c.ss]; exact blkOk_by ok
  have jc := fun s H C cl fp => c.blk s2 bo.kind s H C cl fp
  refine ⟨PE.imp (pe_lc (own := own) c.calm (by rw [c.nn]; exact c.nd) hi.pi bo (fun s H C cl fp => (hg _ (jc s H C cl fp)).pg) (fun s H C cl fp => (ht _ (jc s H C cl fp)).pt) (fun s H C cl fp => (he _ (jc s H C cl fp)).pe) hs) fun σ H Q h => lcOf hi mt me hgv h, moLc hi.mo mt me⟩
/-- y = [..] -/
theorem js_setLc {y : Str} {py spos : Pos} (c : JC P w K mg base N sc vw k X W) (j : Nat) (hj : N[j]? = some y) (hyl : sc.names.lookup y = some .local) (hl : (py.line == pos.line) = true) (hny : (scope.names.any fun (n, k) => n == y && (k == .local || k == .cell)) = false)
    (ok : blkC N sc scope own = true) (s2 : Sc N (relS scope sc) vw2) (hgv : ∀ i ∈ tgS g, i ∈ own.map (·.2)) (hi : JI X W tg iter ti)
    (hg : ∀ X2, JC P w K mg base N (relS scope sc) vw2 k X2 W0 → JG X2 tg g) (ht : ∀ X2, JC P w K mg base N (relS scope sc) vw2 k X2 W0 → JTs X2 W0 ifs tt) (he : ∀ X2, JC P w K mg base N (relS scope sc) vw2 k X2 W0 → JE X2 W0 elt te) (mt : MoE tt) (me : MoE te)
    (hs : ∀ x, foldedSetIterable iter X.env x = pure x := by intro _; rfl) : JS X W (.Assign [.Name y py] (.ListComp elt [⟨tg, iter, ifs, 0⟩] scope pos) spos) (sAsg (dLc ti g tt te (own.map (·.2))) (.nm j)) := by
  have bo : BlkOk X.N X.env.scope scope own := by rw [c.nn, c.ss]; exact blkOk_by ok
  have jc := fun s H C cl fp => c.blk s2 bo.kind s H C cl fp
  refine ⟨PS.imp (ps_setLc (i := j) (own := own) (te := LE X.K W0 te) (tt := LT X.K W0 tt) (g := LG X.K g) (wi := LI X.K W ti) c.calm (by rw [c.nn]; exact c.nd) (by rw [c.nn]; exact hj) (by rw [c.ss]; exact hyl) (sw_true c.kd (by rw [c.ss]; exact hyl) hl hny) hi.pi bo (fun s H C cl fp => (hg _ (jc s H C cl fp)).pg) (fun s H C cl fp => (ht _ (jc s H C cl fp)).pt) (fun s H C cl fp => (he _ (jc s H C cl fp)).pe) hs) fun M σ H h => ?_, moAsg (moLc hi.mo mt me)⟩
  obtain ⟨Z, env, S, re, rs, q⟩ := h
  refine lcOf (own := own) (W := W) hi mt me hgv (LE.of (K := ⟨X.K, Z⟩) (moLc hi.mo mt me) re rs q (fun d S1 v H1 q1 a1 r1 => ?_) fun x S1 c dx H1 q1 a1 r1 => exS re rs q1 a1 r1)
  unfold asgT at q1
  exact q1 _ H1 a1 ((re.step a1.st rs).set r1 j)
end

/-! ### methods of lists that are grown -/
abbrev GM := Addr → List D → Sto → DK → Prop
def dLm (f : GM) (to : TEd) (ta : TAd) : TEd := fun env S Q E => to env S (fun o S1 => match o with
  | .ref a => (S1 a).isSome = true ∧ ta env S1 (fun ds S2 => f a ds S2 Q) E
  | _ => False) E
structure MtD (X : Cx) (id : String) (f : GM) : Prop where
  mo : ∀ a ds S (Q Q' : DK), (∀ d S, Q d S → Q' d S) → f a ds S Q → f a ds S Q'
  run : MtR X id fun x vs H Q => ∃ Z S a ds, x = .ref a ∧ RS ⟨X.K, Z⟩ S H ∧ RpL ⟨X.K, Z⟩ S H ds vs ∧ f a ds S (PQ ⟨X.K, Z⟩ S H Q)
theorem moLm {f : GM} {to : TEd} {ta : TAd} (hf : ∀ a ds S (Q Q' : DK), (∀ d S, Q d S → Q' d S) → f a ds S Q → f a ds S Q') (h1 : MoE to) (h2 : MoE ta) : MoE (dLm f to ta) := fun env S Q Q' E E' h he q => h1 _ _ _ _ _ _ (fun o S1 q1 => by
  cases o <;> first | exact q1 | exact ⟨q1.1, h2 _ _ _ _ _ _ (fun ds S2 q2 => hf _ _ _ _ _ h q2) he q1.2⟩) he q
section
variable {X : Cx} {W : WX} {o e : Expr} {es : List Expr} {to : TEd} {ta : TAd} {name : Str} {apos cpos : Pos} {id : String} {f : GM}
theorem je_lm (slot : Slot "list" name id) (hty : typeOf (.builtin id) = pure (.type "method_descriptor")) (hm : MtD X id f) (ho : JE X W o to) (ha : JA X W (e :: es) ta)
    (hbase : attributeBase o name X.env (eval o X.env) = eval o X.env := by rfl)
    (hfew : ((backTo cpos (starEach (e :: es) X.env)).all (fun x => !x.1) && (backToKw cpos (keywordEach [] X.env)).all (fun x => x.1.isSome) && decide ((e :: es).length + ([] : List Keyword).length + (if ([] : List Keyword).isEmpty then 0 else 1) < 30)) = true := by rfl)
    (hline : (apos.endLine == cpos.line) = true := by rfl) (hs : starEach (e :: es) X.env = (false, eval e X.env) :: starEach es X.env := by rfl) (hplain : (backTo cpos (starEach es X.env)).any (·.1) = false := by rfl) :
    JE X W (.Call (.Attribute o name apos) (e :: es) [] cpos) (dLm f to ta) := by
  refine ⟨PE.imp (pe_bm PySem.F.plainAttrs_list slot hty hm.run ho.pe ha.pa hbase hfew hline hs hplain) fun σ H Q h => ?_, moLm hm.mo ho.mo ha.mo⟩
  obtain ⟨Z, env, S, re, rs, q⟩ := h
  refine LE.of ho.mo re rs q (fun d S1 v H1 q1 a1 r1 => ?_) fun x S1 c dx H1 q1 a1 r1 => q1 c dx H1 a1 r1
  cases d <;> first | exact q1.elim | skip
  rename_i a
  cases r1
  obtain ⟨ds, e1⟩ := Option.isSome_iff_exists.mp q1.1
  obtain ⟨vs, hl, _⟩ := a1.rs.at_ a ds e1
  refine ⟨.inl ⟨rfl, vs, SqL.of hl⟩, LA.of ha.mo (re.step a1.st rs) a1.rs q1.2 (fun ds2 S2 vs2 H2 q2 a2 r2 => ?_) fun x S2 c dx H2 q2 a2 r2 => q2 c dx H2 (a1.trans a2) r2⟩
  exact ⟨Z, S2, a, ds2, rfl, a2.rs, r2, hm.mo _ _ _ _ _ (fun d S3 q3 => PQ.after (a1.trans a2) q3) q2⟩
def gApp : GM := fun a ds S Q => match ds with
  | [d] => match S a with
    | some xs => xs.length < sizeLine ∧ Q .non (sup S a (xs ++ [d]))
    | none => False
  | _ => False
theorem md_append : MtD X "list.append" gApp := by
  refine ⟨fun a ds S Q Q' h q => ?_, fun pins s σ H x xs v us Q I rx rv h => ?_⟩
  · unfold gApp at q ⊢
    split at q <;> first | exact q.elim | skip
    split at q <;> first | exact q.elim | exact ⟨q.1, h _ _ q.2⟩
  · obtain ⟨Z, S, a, ds, rfl, rs, rl, q⟩ := h
    unfold gApp at q
    split at q <;> first | exact q.elim | skip
    split at q <;> first | exact q.elim | skip
    rename_i d _ ys e
    obtain ⟨y, rfl, r1⟩ := rl.one
    obtain ⟨vs, hl, rv2⟩ := rs.at_ a ys e
    refine mt_append pins s σ H _ _ v us Q I rx rv ⟨a, vs, y, rfl, rfl, hl, by rw [← rv2.length]; exact q.1, ?_⟩
    exact q.2 _ _ (Rp.putR rs e (rv2.append (.cons r1 .nil))) .non
theorem je_append (ho : JE X W o to) (ha : JA X W [e] ta) (hbase : attributeBase o "append" X.env (eval o X.env) = eval o X.env := by rfl) (hline : (apos.endLine == cpos.line) = true := by rfl) (hs : starEach [e] X.env = (false, eval e X.env) :: starEach [] X.env := by rfl)
    (hfew : ((backTo cpos (starEach [e] X.env)).all (fun x => !x.1) && (backToKw cpos (keywordEach [] X.env)).all (fun x => x.1.isSome) && decide ([e].length + ([] : List Keyword).length + (if ([] : List Keyword).isEmpty then 0 else 1) < 30)) = true := by rfl) : JE X W (.Call (.Attribute o "append" apos) [e] [] cpos) (dLm gApp to ta) :=
  je_lm PySem.F.slot_list_append PySem.F.type_list_append md_append ho ha hbase hfew hline hs rfl
end

/-! ### raise, try -/
def sRaise (x : Str) : TSd := fun env S N => N.ex ⟨x, []⟩ env S
theorem moRaise {x : Str} : MoS (sRaise x) := fun env S A B l h => l.ex _ _ _ h
theorem js_raise {X : Cx} {W : WX} {e : Expr} {x : Str} {C : Addr} {pos : Pos} (hc : X.calm = true) (tk : Takes X W) (hC : PySem.W.nsIn X.K mainGlobals x = some (some (.ref C))) (he : PMk X e (fun _ H Q => Q (.ref C) none H)) : JS X W (.Raise (some e) none pos) (sRaise x) := by
  refine ⟨PS.imp (ps_raise hc tk he) fun N σ H h => ?_, moRaise⟩
  obtain ⟨Z, env, S, re, rs, q⟩ := h
  exact q _ none σ H (.refl rs) re ⟨⟨C, hC, rfl⟩, rfl⟩
/-- a try whose body raises nothing -/
def sThru (t u : TSd) : TSd := fun env S N => t env S { N with nx := fun e s => u e s N, ex := fun _ _ _ => False }
end Bl

namespace Bl
open PySem PySem.Spec PyProof.Rows L2

/-! ### a def -/
/-- what the body makes of the arguments: n parameters, l names -/
def fnD (n l : Nat) (tb : TSd) : TFd := fun ds S Q E => ds.length = n ∧ tb (ds.map some ++ List.replicate (l - n) none) S ⟨fun _ S1 => Q .non S1, Q, fun _ _ => False, fun _ _ => False, fun x _ S1 => E x S1⟩
theorem moFn {n l : Nat} {tb : TSd} (h : MoS tb) : MoF (fnD n l tb) := fun ds S Q Q' E E' hq he q => ⟨q.1, h _ _ ⟨fun _ S1 => Q .non S1, Q, fun _ _ => False, fun _ _ => False, fun x _ S1 => E x S1⟩ _ ⟨fun _ _ z => hq _ _ z, hq, fun _ _ z => z, fun _ _ z => z, fun x _ S z => he x S z⟩ q.2⟩
section
variable {P : Program} {w : World} {K : PySem.W.Frag} {mg : Str → Option Value} {base : Heap} {N ps : List Str} {sc : Scope} {vw : Vw} {k : Nat}
/-- some context -/
theorem JD.some (sC : Sc N sc vw) (nd : N.Nodup) (hk : sc.kind = .function) (hr : Room k callerA) : ∃ X W, JD P w K mg base N sc vw k X W := by
  refine ⟨⟨P, w, K, mg, base, callerA, N, {}, fun _ => none, envOfC "" sc 0 0 .none, [], [envOfC "" sc 0 0 .none], [], fun _ => true, true, [], fun _ _ => False⟩, W0, ?_⟩
  exact { prog := rfl, ww := rfl, kk := rfl, gg := rfl, bb := rfl, nn := rfl, ss := rfl, sC := sC, nd := nd, calm := rfl, room := hr, tk := takes0, kd := hk, po := .never, fn := fun _ => rfl, hs := rfl, hf := rfl }
/-- a def's body keeps the promise -/
theorem fnOk_of {x qual : Str} {params : Arguments} {body : List Stmt} {scope : Scope} {f : Addr} {oc dV kV doc pm cdv ct : Value} {od an : Option Addr} {osl : Array (Option Value)} {tb : TSd} (lk : K.lookup f = some ⟨oc, od, .func (PySem.W.fnOf x qual params body scope dV kV doc pm an cdv ct), osl⟩) (hcd : PySem.W.codeIn K cdv qual = true)
    (S : FnScope N ps scope) (sC : Sc N scope vw) (h : ∀ X W, JD P w K mg base N scope vw k X W → JB X W body tb) :
    FnOk P w K mg base (L2.CX P w) (k + 1) f (PySem.W.fnOf x qual params body scope dV kV doc pm an cdv ct) ps (LSp K ps.length (fnD ps.length N.length tb)) := by
  refine fn_of lk hcd S (fun vs H Q E h => ?_) fun A outer s H vs Q E hr hsp => ?_
  · obtain ⟨Z, ds, S, hl, r, _⟩ := h
    rw [← r.length]
    exact hl
  · obtain ⟨Z, ds, S0, hl, r, rs, _, q⟩ := hsp
    have jd : JD P w K mg base N scope vw k (cxOf (L2.CX P w) P w K mg base N qual scope f cdv A outer s H E) fun cls d _ H => E cls d H :=
      { prog := rfl, ww := rfl, kk := rfl, gg := rfl, bb := rfl, nn := rfl, ss := rfl, sC := sC, nd := S.nd, calm := rfl, room := hr, tk := takes_of rfl rfl rfl rfl, kd := S.kind, po := passes_of rfl, fn := fun _ => rfl, hs := rfl, hf := rfl }
    have jb := h _ _ jd
    refine ⟨_, jb.ps, LS.of (K := ⟨K, Z⟩) jb.mo (env := ds.map some ++ List.replicate (N.length - ps.length) none) ?_ rs q ⟨fun _ S1 z σ' H' a _ => z _ H' a .non, fun d S1 z v H' a r => z v H' a r, fun _ _ z => z.elim, fun _ _ z => z.elim, fun x _ S1 z c dx σ' H' a _ rx => z c dx H' a rx⟩⟩
    have z := RE.start r (N.length - ps.length)
    unfold L2.start
    rw [← r.length, hl]
    exact z
theorem moS_of {scope : Scope} {body : List Stmt} {tb : TSd} (S : FnScope N ps scope) (sC : Sc N scope vw) (hr : Room k callerA) (h : ∀ X W, JD P w K mg base N scope vw k X W → JB X W body tb) : MoS tb := by
  obtain ⟨X, W, jd⟩ := JD.some (P := P) (w := w) (K := K) (mg := mg) (base := base) sC S.nd S.kind hr
  exact (h X W jd).mo
end

/-! ### the law -/
/-- a list of at most n ints is handed in, True comes out -/
def spLaw (K : PySem.W.Frag) (n : Nat) : Sp := fun vs H Q _ => ∃ (a : Addr) (ns : List Int), vs = [.ref a] ∧ SqL K H a (ns.map V.int) ∧ ns.length ≤ n ∧ Only H ∧ ∀ H', Q (.bl true) H'
theorem law_sp {K : PySem.W.Frag} {n : Nat} {m : TFd} (mo : MoF m) (h : ∀ ns : List Int, ns.length ≤ n → m [.lst (ns.map D.int)] (fun _ => none) (fun d _ => d = .bl true) fun _ _ => False) : ∀ vs H Q E, spLaw K n vs H Q E → LSp K 1 m vs H Q E := by
  intro vs H Q E hh
  obtain ⟨a, ns, rfl, hS, hl, ho, q⟩ := hh
  have r : Rp ⟨K, fun _ => False⟩ (fun _ => none) H (.lst (ns.map D.int)) (.ref a) := by
    rcases hS with hS | hS
    · exact .lst hS rfl (fun z => z) RpL.ints
    · exact .lstK hS RpL.ints
  refine ⟨fun _ => False, [.lst (ns.map D.int)], fun _ => none, rfl, .cons r .nil, ⟨fun _ _ e => (nomatch e), fun _ hb => False.elim hb⟩, mo _ _ _ _ _ _ (fun d S1 e v H' a2 r2 => ?_) (fun x S1 z => z.elim) (h ns hl)⟩
  subst e
  cases r2
  exact q H'
end Bl

namespace Bl
open PySem PySem.Spec PyProof.Rows L2

/-! ### n.bit_length() -/
def dBits (t : TEd) : TEd := fun env S Q E => t env S (fun d S' => match d with | .int i => Q (.int (Builtin.Int.intBits i : Nat)) S' | _ => False) E
theorem moBits {t : TEd} (h : MoE t) : MoE (dBits t) := fun env S Q Q' E E' hq he q => h _ _ _ _ _ _ (fun d S1 q1 => by
  cases d <;> first | exact hq _ _ q1 | exact q1) he q
section
variable {X : Cx} {W : WX} {o : Expr} {to : TEd} {apos pos : Pos}
theorem je_bits (ho : JE X W o to) (hbase : attributeBase o "bit_length" X.env (eval o X.env) = eval o X.env := by rfl) (hline : (apos.endLine == pos.line) = true := by rfl) : JE X W (.Call (.Attribute o "bit_length" apos) [] [] pos) (dBits to) := by
  refine ⟨PE.imp (pe_bits ho.pe hbase hline) fun σ H Q h => ?_, moBits ho.mo⟩
  obtain ⟨Z, env, S, re, rs, q⟩ := h
  refine LE.of ho.mo re rs q (fun d S1 x H1 q1 a1 r1 => ?_) fun x S1 c dx H1 q1 a1 r1 => q1 c dx H1 a1 r1
  cases d <;> first | exact q1.elim | skip
  cases r1
  exact ⟨_, rfl, q1 _ H1 a1 (.int _)⟩
end

/-! ### sorted, of whole numbers -/
def intsOf : List D → Option (List Int)
  | [] => some []
  | .int i :: ds => (intsOf ds).map (i :: ·)
  | _ => none
/-! ### a op= b -/
def fIadd : F2 := fun x y S Q => match x, y with
  | .int i, .int j => Q (.int (i + j)) S
  | .str i, .str j => i.length + j.length ≤ sizeLine ∧ Q (.str (i ++ j)) S
  | _, _ => False
section
variable {X : Cx}
end

/-! ### a try that is run through -/
section
variable {P : Program} {w : World} {K : PySem.W.Frag} {mg : Str → Option Value} {base : Heap} {N : List Str} {sc : Scope} {vw : Vw} {k : Nat} {X : Cx} {W : WX}
end

/-! ### constants of the module -/
/-! ### defs with defaults -/
section
variable {P : Program} {w : World} {K : PySem.W.Frag} {mg : Str → Option Value} {base : Heap} {N ps : List Str} {vw : Vw} {k : Nat}
end
end Bl

namespace Bl
open PySem PySem.Spec PyProof.Rows L2

/-! ### pairs stored from the right -/
theorem blk_fn {env : Env} (h : env.scope.kind = .function) : env.blockKind = .function := by unfold Env.blockKind; rw [h]; rfl
def isStar : Expr → Bool
  | .Starred .. => true
  | _ => false
def swNm (env : Env) (line : Nat) : Expr → Option Str
  | .Name id pos => if env.kindOf id == some .local && pos.line == line then some id else none
  | _ => none
theorem sw_eq {ts vs : List Expr} {kt k2 : Nat} {pt pt2 : Pos} {env : Env} (hk : env.scope.kind = .function) (hl : ts.length = 2 ∨ ts.length = 3) (hv : vs.length = ts.length) (hs : vs.any isStar = false) :
    swappedStores [.Tuple ts kt pt] (.Tuple vs k2 pt2) env = (do
      let names := ts.filterMap (swNm env ((ts.head?.map (·.pos.line)).getD 0))
      if names.length != ts.length || names.eraseDups.length != names.length then return none
      if vs.all (foldedForSure 8) then return none
      if vs.all (constantsAlone 8) then unsupported "assign.tuple-of-constant-expressions:order-of-the-stores"
      return some names) := by
  have e1 : (!(ts.length == 2 || ts.length == 3) || vs.length != ts.length || env.blockKind != .function) = false := by
    rw [blk_fn hk, hv]
    rcases hl with h | h <;> rw [h] <;> rfl
  unfold swappedStores
  show (if (!(ts.length == 2 || ts.length == 3) || vs.length != ts.length || env.blockKind != .function) = true then (pure none : Sem (Option (List Str))) else if vs.any isStar = true then pure none else _) = _
  rw [e1, hs]
  rfl
theorem sw2 {x y : Str} {p q : Expr} {px py pt pt2 : Pos} {kt k2 : Nat} {env : Env} (hk : env.scope.kind = .function) (hx : env.scope.names.lookup x = some .local) (hy : env.scope.names.lookup y = some .local) (hl : (py.line == px.line) = true) (hne : (y == x) = false)
    (hs : [p, q].any isStar = false) (hf : [p, q].all (foldedForSure 8) = false) (hc : [p, q].all (constantsAlone 8) = false) : swappedStores [.Tuple [.Name x px, .Name y py] kt pt] (.Tuple [p, q] k2 pt2) env = pure (some [x, y]) := by
  rw [sw_eq (ts := [.Name x px, .Name y py]) (vs := [p, q]) hk (.inl rfl) rfl hs]
  have kx : env.kindOf x = some .local := hx
  have ky : env.kindOf y = some .local := hy
  have e1 : (some NameKind.local == some NameKind.local) = true := rfl
  have e : [Expr.Name x px, .Name y py].filterMap (swNm env px.line) = [x, y] := by
    simp only [List.filterMap_cons, List.filterMap_nil, swNm, kx, ky, e1, hl, beq_self_eq_true, Bool.and_self, if_true]
  show (do
      let names := [Expr.Name x px, .Name y py].filterMap (swNm env px.line)
      if names.length != 2 || names.eraseDups.length != names.length then return none
      if [p, q].all (foldedForSure 8) then return none
      if [p, q].all (constantsAlone 8) then unsupported "assign.tuple-of-constant-expressions:order-of-the-stores"
      return some names) = _
  rw [e, hf, hc]
  have e5 : [x, y].eraseDups.length = 2 := by simp [List.eraseDups_cons, hne]
  simp only [e5]
  rfl
section
variable {P : Program} {w : World} {K : PySem.W.Frag} {mg : Str → Option Value} {base : Heap} {N ps : List Str} {vw : Vw} {k : Nat} {X : Cx} {W : WX}
/-! ### defs by their data -/
/-- no defaults by places, called by places -/
theorem jf_mkN {x qual : Str} {params : Arguments} {body : List Stmt} {scope : Scope} {kws : List (Str × V)} {f : Addr} {fd : FuncData} {tb : TSd} (F : FunD K x qual params body scope [] kws f fd) (S : FnScope N ps scope) (sC : Sc N scope vw) (mgx : mg x = some (.ref f)) (hr : Room k callerA)
    (hb : ∀ (kV doc pm : Value) (an : Option Addr) (cdv ct : Value) (us : List Value), us.length = ps.length → bindArgs (PySem.W.fnOf x qual params body scope .none kV doc pm an cdv ct) ⟨us, []⟩ = pure (ps.zip us))
    (h : ∀ X W, JD P w K mg base N scope vw k X W → JB X W body tb) : JF P w K mg base x ps.length [] (fun ds _ => ds) (k + 1) (fnD ps.length N.length tb) := by
  obtain ⟨oc, od, dV, kV, doc, pm, an, cdv, ct, osl, rfl, lk, hcd, hD, _⟩ := F.ex
  rcases hD with ⟨_, rfl⟩ | ⟨e, _⟩
  · refine ⟨⟨f, _, ps, fun us _ => us, fun vs _ => vs, mgx, F.kp, fnOk_of lk hcd S sC h, ⟨fun s us ws _ l1 l2 => ?_, fun r _ => r⟩, fun Z S H ds zs vs ws r _ l1 _ => ⟨r, l1⟩⟩, moFn (moS_of S sC hr h)⟩
    exact .of_eq (hb kV doc pm an cdv ct us l1)
  · exact absurd rfl e
/-- a def's promise, its object kept -/
theorem ok_mkN {x qual : Str} {params : Arguments} {body : List Stmt} {scope : Scope} {kws : List (Str × V)} {f : Addr} {fd : FuncData} {tb : TSd} (F : FunD K x qual params body scope [] kws f fd) (S : FnScope N ps scope) (sC : Sc N scope vw)
    (h : ∀ X W, JD P w K mg base N scope vw k X W → JB X W body tb) : FnOk P w K mg base (L2.CX P w) (k + 1) f fd ps (LSp K ps.length (fnD ps.length N.length tb)) := by
  obtain ⟨oc, od, dV, kV, doc, pm, an, cdv, ct, osl, rfl, lk, hcd, hD, _⟩ := F.ex
  exact fnOk_of lk hcd S sC h
theorem mm {α : Type} {l : List α} {a : α} (j : Nat) (h : l[j]? = some a := by rfl) : a ∈ l := List.mem_of_getElem? h
/-- what the top tells: facts, defs, one thing more -/
structure Tp (fa : List He.Fa) (fn : List He.DefD) (bx : PySem.W.Frag → Bool) (K : PySem.W.Frag) (mg : Str → Option Value) : Prop where
  sy : He.SaysD fa fn K
  bx : bx K = true
  gl : ∀ x, (He.Fa.glo x).ok K = true → mg x = some (.ref (He.ga K x))
  fr : ∀ x, (He.Fa.free x).ok K = true → mg x = none
section
variable {fa : List He.Fa} {fn : List He.DefD} {bx : PySem.W.Frag → Bool}
theorem Tp.mk' {h : Heap} (X : K.In h) (G : h.Ns mainGlobals mg) (c : He.SaysD fa fn K ∧ bx K = true) : Tp fa fn bx K mg := ⟨c.1, c.2, fun _ q => He.glo_ok X G q, fun _ q => He.free_ok X G q⟩
theorem Tp.glo (T : Tp fa fn bx K mg) (i : Nat) {x : Str} (h : fa[i]? = some (.glo x) := by rfl) : mg x = some (.ref (He.ga K x)) := T.gl x (T.sy.fact i h)
theorem Tp.free (T : Tp fa fn bx K mg) (i : Nat) {x : Str} (h : fa[i]? = some (.free x) := by rfl) : mg x = none := T.fr x (T.sy.fact i h)
end
theorem gc_int {x : Str} {i : Int} (h : ∃ t, mg x = some (.int i t)) : GC K mg x (.int i) := by
  obtain ⟨t, h⟩ := h
  exact ⟨_, .int i, h, ⟨t, rfl⟩, fun Z S H => .int i⟩
end

/-! ### the head's reading -/
/-- the end, what leaves a call told of each world -/
theorem walk_ofX {l : PySem.W.OpenLaw} {n k : Nat} {q : Program} {loose : List Str} {XP : (Str → Option Value) → Heap → Prop} {YP : World → Heap → Prop} {d : DefRec} {x : Str} (hn : l.most = some n) (hn2 : n ≤ sizeLine) (hdf : d.params.defaults = []) (hr : Room k callerA)
    (F : ∀ (w : World) (mg : Str → Option Value) (fa : Addr) (h : Heap), YP w h → h.Ns mainGlobals mg → mg d.name = some (.ref fa) → ∃ (K : PySem.W.Frag) (fd : FuncData), K.In h ∧ (∀ (s : Shared) (u : Value), BindsTo s fd ⟨[u], []⟩ [(x, u)]) ∧ ∀ base : Heap, K.In base → base.Ns mainGlobals mg → FnOk l.prog w K mg base (L2.CX l.prog w) k fa fd [x] (spLaw K n)) : PySem.W.WalkO q loose XP YP l.row.toRowW d [] (fun f vs => PySem.call f vs) := by
  refine Att.attach_call hn hdf fun w s0 s1 mg mb fa o pm cd doc a vs ns G Y ho hd hcd hmg hobj hints hlen hg => ?_
  obtain ⟨K, fd, KX, hb, hF⟩ := F w mg fa _ Y G.T.g hmg
  refine law_call KX G.T.g G.T.b G.T.builtins G.T.nolimit hg hobj hints (Nat.le_trans hlen hn2) hr hF hb (fun H hO hS => ⟨a, ns, rfl, hS, hlen, hO, fun _ => rfl⟩) fun H e s' z => ?_
  obtain ⟨_, _, _, _, _, _, _, _, _, _, _, _, z⟩ := z
  exact z
end Bl

namespace Bl
open PySem PySem.Spec PyProof.Rows L2
/-! ### monotony by shape -/
end Bl

namespace Bl
open PySem PySem.Spec PyProof.Rows L2
/-! ### within an except suite: no calls of defs, nothing is raised -/
structure JC0 (K : PySem.W.Frag) (mg : Str → Option Value) (N : List Str) (sc : Scope) (vw : Vw) (X : Cx) : Prop where
  kk : X.K = K
  gg : X.mg = mg
  nn : X.N = N
  ss : X.env.scope = sc
  sC : Sc N sc vw
  nd : N.Nodup
section
variable {K : PySem.W.Frag} {mg : Str → Option Value} {N : List Str} {sc : Scope} {vw : Vw} {X : Cx} {W : WX}
theorem JC0.gl (c : JC0 K mg N sc vw X) {x : Str} (h : x ∈ vw.gs) : Gl X x := by
  show X.env.scope.names.lookup x = some .globalImplicit
  rw [c.ss]
  exact (c.sC.gl x h).1
theorem jv0 (c : JC0 K mg N sc vw X) (i : Nat) {x : Str} {pos : Pos} (hi : i ∈ vw.vl) (hN : N[i]? = some x) : JE X W (.Name x pos) (vr i) := by
  obtain ⟨v1, v2, v3⟩ := c.sC.vis i hi x hN
  refine ⟨PE.imp (pe_var (i := i) (by rw [c.nn]; exact hN) (by rw [c.ss]; exact v1) v2 v3) fun σ H Q h => ?_, moVr i⟩
  obtain ⟨Z, env, S, re, rs, q⟩ := h
  unfold vr at q
  split at q
  · rename_i d e
    obtain ⟨v, e1, r⟩ := re.at_ i d e
    exact ⟨v, e1, q v H (.refl rs) r⟩
  · exact q.elim
theorem js_set0 (c : JC0 K mg N sc vw X) (j : Nat) {x : Str} {e : Expr} {te : TEd} {pos pos' : Pos} (hi : N[j]? = some x) (hx : j ∈ vw.lo) (he : JE X W e te) (hs : swapsWith e (some (.Name x pos')) pos.line X.env = pure false := by rfl) : JS X W (.Assign [.Name x pos'] e pos) (sAsg te (.nm j)) := by
  have hl := c.sC.loc j hx x hi
  have hl2 : X.env.scope.names.lookup x = some .local := by rw [c.ss]; exact hl
  refine ⟨PS.imp (ps_set (i := j) (by rw [c.nn]; exact c.nd) (by rw [c.nn]; exact hi) (.inl hl2) he.pe hs (.inr hl2)) fun N σ H h => ?_, moAsg he.mo⟩
  obtain ⟨Z, env, S, re, rs, q⟩ := h
  refine LE.of he.mo re rs q (fun d S1 v H1 q1 a1 r1 => ?_) fun x S1 c dx H1 q1 a1 r1 => exS re rs q1 a1 r1
  unfold asgT at q1
  exact q1 _ H1 a1 ((re.step a1.st rs).set r1 j)
end
/-! ### isinstance of the one that is held -/
/-- a class by its name -/
def JCl (K : PySem.W.Frag) (mg : Str → Option Value) (x : Str) (u : Value) : Prop := (∃ C, mg x = some (.ref C) ∧ u = .ref C) ∨ (mg x = none ∧ ∃ T, bootBuiltins x = some (.type T) ∧ u = .type T)
def vOfU : Value → V
  | .ref C => .ref C
  | .type T => .ty T
  | _ => .non
section
variable {K : PySem.W.Frag} {mg : Str → Option Value} {N : List Str} {sc : Scope} {vw : Vw} {X : Cx} {W : WX}
theorem pe_cl (c : JC0 K mg N sc vw X) {x : Str} {u : Value} {pos : Pos} (hx : x ∈ vw.gs) (h : JCl K mg x u) : PE X (.Name x pos) (tC (vOfU u)) := by
  rcases h with ⟨C, h, rfl⟩ | ⟨h, T, hT, rfl⟩
  · exact pe_glob (c.gl hx) (by rw [c.gg]; exact h) rfl (c.sC.gl x hx).2.2
  · exact pe_bltn (v := .ty T) (c.gl hx) (by rw [c.gg]; exact h) hT rfl (c.sC.gl x hx).2.1 (c.sC.gl x hx).2.2
theorem relU {K : PySem.W.Frag} {mg : Str → Option Value} {x : Str} {u w : Value} (h : JCl K mg x u) (r : RelV (vOfU u) w) : w = u := by
  rcases h with ⟨C, _, rfl⟩ | ⟨_, T, _, rfl⟩
  · exact r
  · exact r
/-- isinstance(e, C): e, in slot i, the one that is held -/
def dIsE (i : Nat) (a : Addr) (b : Option Bool) : TEd := fun env S Q _ => env[i]? = some (some (.obj a)) ∧ match b with
  | some b => Q (.bl b) S
  | none => False
theorem moIsE {i : Nat} {a : Addr} {b : Option Bool} : MoE (dIsE i a b) := fun env S Q Q' E E' hq he q => ⟨q.1, by
  have q2 := q.2
  split at q2 <;> first | exact hq _ _ q2 | exact q2⟩
/-- the suite's context: a of the class D -/
structure JX (K : PySem.W.Frag) (mg : Str → Option Value) (N : List Str) (sc : Scope) (vw : Vw) (a Dc : Addr) (X : Cx) : Prop extends JC0 K mg N sc vw X where
  xc : ∃ (X0 : Cx) (oe : Obj) (pn : List (Addr × Obj)), X = X0.suite a ((a, oe) :: pn) ∧ Zc (.ref Dc) none oe ∧ ∃ vs, oe.data = .fields vs
theorem je_isE {a Dc : Addr} (c : JX K mg N sc vw a Dc X) (i : Nat) {x y : Str} {p q r pos : Pos} {u : Value} {b : Option Bool} (C : ExcC K Dc) (hi : i ∈ vw.vl) (hN : N[i]? = some x) (hs : ("isinstance" : Str) ∈ vw.gs) (hm : mg "isinstance" = none) (hy : y ∈ vw.gs) (hu : JCl K mg y u)
    (hb : ∀ b', b = some b' → PySem.W.kitOne K (.ref Dc) u = some b') (he : starEach [.Name x p, .Name y q] X.env = (false, eval (.Name x p) X.env) :: starEach [.Name y q] X.env := by rfl) : JE X W (.Call (.Name "isinstance" r) [.Name x p, .Name y q] [] pos) (dIsE i a b) := by
  obtain ⟨X0, oe, pn, ex, hz, hf⟩ := c.xc
  obtain ⟨v1, v2, v3⟩ := c.sC.vis i hi x hN
  have CC : ExcC X.K Dc := by rw [c.kk]; exact C
  have cr : CallR X (.builtin "isinstance") (rIsE X.K Dc a) := by
    subst ex
    exact call_isE CC hz hf
  refine ⟨PE.imp (pe_callB cr (c.gl hs) (by rw [c.gg]; exact hm) (by decide +kernel) (pa_cons (pe_var (i := i) (by rw [c.nn]; exact hN) (by rw [c.ss]; exact v1) v2 v3) (pa_cons (pe_cl c.toJC0 hy hu) pa_nil) he) (c.sC.gl _ hs).2.1 (c.sC.gl _ hs).2.2 he) fun σ H Q h => ?_, moIsE⟩
  obtain ⟨Z, env, S, re, rs, e1, q1⟩ := h
  split at q1 <;> first | exact q1.elim | skip
  rename_i b'
  obtain ⟨v, e2, r2⟩ := re.at_ i _ e1
  cases r2
  exact ⟨_, e2, _, u, b', rfl, fun w hw => relU hu hw, by rw [c.kk]; exact hb b' rfl, q1 _ H (.refl rs) (.bl _)⟩
/-- isinstance(e, (C, ..)) -/
def rIsT (K : PySem.W.Frag) (D a : Addr) : List V → Hp → VK → Prop := fun xs H Q => ∃ (tp : Addr) (vs : List V) (cvs : List Value) (b : Bool), xs = [.ref a, .ref tp] ∧ H tp = some (.tup vs) ∧ (∀ us, Vals vs us → us = cvs) ∧ PySem.W.kitAny K (.ref D) cvs = some b ∧ Q (.bl b) H
theorem call_isT {X : Cx} {a Dc : Addr} {oe : Obj} {pn : List (Addr × Obj)} (C : ExcC X.K Dc) (hz : Zc (.ref Dc) none oe) (hf : ∃ vs, oe.data = .fields vs) : CallR (X.suite a ((a, oe) :: pn)) (.builtin "isinstance") (rIsT X.K Dc a) := by
  intro pins s σ H xs us Q I r h
  obtain ⟨tp, vs, cvs, b, rfl, htp, hcv, e, q⟩ := h
  cases r with
  | cons rx rr =>
    cases rr with
    | cons rt rr =>
      cases rr
      cases rx
      cases rt
      obtain ⟨hget, _⟩ := I.pin (a, oe) (List.mem_append.mpr (.inl List.mem_cons_self))
      obtain ⟨fs, hv⟩ := hf
      have J : PySem.W.InstAt s.heap a oe Dc none := by
        obtain ⟨oc, od, oda, osl⟩ := oe
        obtain ⟨h1, h2⟩ := hz
        dsimp only at h1 h2 hv
        subst h1 h2 hv
        exact ⟨hget, rfl, rfl, trivial⟩
      obtain ⟨_, its, rits, hg⟩ := I.hok tp _ htp
      obtain ⟨o, g1, g2, n, g3⟩ := hg
      obtain ⟨oc, od, odt, osl⟩ := o
      dsimp only at g2 g3
      subst g2 g3
      have ei := hcv _ rits
      subst ei
      exact PySem.W.kia_tup (PySem.W.handS_kitx_exc C.hg C.hk C.hs C.hd C.ha C.hn C.ht C.hm) I.kIn J g1 e (fun z => nomatch z) fun tk => ⟨.bl b, H, I.kept (t' := tk) fun _ _ z => z, rfl, q⟩
/-- the classes by their names, as arguments -/
structure PCls (X : Cx) (es : List Expr) (us : List Value) : Prop where
  pa : ∃ ta, PA X es ta ∧ (∀ σ H (Q : List V → Hp → Prop), Q (us.map vOfU) H → ta σ H Q)
  rel : ∀ ws, Vals (us.map vOfU) ws → ws = us
theorem pcls_nil {X : Cx} : PCls X [] [] := ⟨⟨_, pa_nil, fun σ H Q q => q⟩, fun ws r => by cases r; rfl⟩
theorem pcls_cons (c : JC0 K mg N sc vw X) {x : Str} {u : Value} {p : Pos} {es : List Expr} {us : List Value} (hx : x ∈ vw.gs) (h : JCl K mg x u) (r : PCls X es us) (he : starEach (.Name x p :: es) X.env = (false, eval (.Name x p) X.env) :: starEach es X.env := by rfl) : PCls X (.Name x p :: es) (u :: us) := by
  obtain ⟨ta, h1, h2⟩ := r.pa
  refine ⟨⟨_, pa_cons (pe_cl c hx h) h1 he, fun σ H Q q => h2 σ H _ q⟩, fun ws rw => ?_⟩
  cases rw with
  | cons r1 r2 => rw [relU h r1, r.rel _ r2]
theorem je_isT {a Dc : Addr} (c : JX K mg N sc vw a Dc X) (i : Nat) {x : Str} {p r tp pos : Pos} {es : List Expr} {n : Nat} {us : List Value} {b : Option Bool} (C : ExcC K Dc) (hi : i ∈ vw.vl) (hN : N[i]? = some x) (hs : ("isinstance" : Str) ∈ vw.gs) (hm : mg "isinstance" = none) (pc : PCls X es us) (hl : us.length ≤ 1000)
    (hb : ∀ b', b = some b' → PySem.W.kitAny K (.ref Dc) us = some b') (he : starEach [.Name x p, .Tuple es n tp] X.env = (false, eval (.Name x p) X.env) :: starEach [.Tuple es n tp] X.env := by rfl) (he2 : starEach [.Tuple es n tp] X.env = (false, eval (.Tuple es n tp) X.env) :: starEach [] X.env := by rfl) : JE X W (.Call (.Name "isinstance" r) [.Name x p, .Tuple es n tp] [] pos) (dIsE i a b) := by
  obtain ⟨X0, oe, pn, ex, hz, hf⟩ := c.xc
  obtain ⟨v1, v2, v3⟩ := c.sC.vis i hi x hN
  obtain ⟨ta, p1, p2⟩ := pc.pa
  have CC : ExcC X.K Dc := by rw [c.kk]; exact C
  have cr : CallR X (.builtin "isinstance") (rIsT X.K Dc a) := by
    subst ex
    exact call_isT CC hz hf
  refine ⟨PE.imp (pe_callB cr (c.gl hs) (by rw [c.gg]; exact hm) (by decide +kernel) (pa_cons (pe_var (i := i) (by rw [c.nn]; exact hN) (by rw [c.ss]; exact v1) v2 v3) (pa_cons (pe_tup p1) pa_nil he2) he) (c.sC.gl _ hs).2.1 (c.sC.gl _ hs).2.2 he) fun σ H Q h => ?_, moIsE⟩
  obtain ⟨Z, env, S, re, rs, e1, q1⟩ := h
  split at q1 <;> first | exact q1.elim | skip
  rename_i b'
  obtain ⟨v, e2, r2⟩ := re.at_ i _ e1
  cases r2
  refine ⟨_, e2, p2 σ H _ ⟨by rw [List.length_map]; exact Nat.le_of_lt (small1000 hl), fun q hq => ?_⟩⟩
  exact ⟨q, _, us, b', rfl, upd_same, pc.rel, by rw [c.kk]; exact hb b' rfl, q1 _ _ (rs.newN (o := .tup (us.map vOfU)) hq) (.bl _)⟩
end

/-! ### try, except C as n -/
def ndS (i : Nat) (N : Nd) : Nd := ⟨fun e s => N.nx (e.set i none) s, N.rt, fun e s => N.bk (e.set i none) s, fun e s => N.ct (e.set i none) s, fun _ _ _ => False⟩
/-- sb: of each class that may fly, whether the clause takes it -/
def ndT (sb : Str → Option Bool) (i : Nat) (u : Addr → Str → TSd) (N : Nd) : Nd := ⟨N.nx, N.rt, N.bk, N.ct, fun x e S1 => match sb x.nm with
  | some true => x.fs = [] ∧ ∀ a, u a x.nm (e.set i (some (.obj a))) S1 (ndS i N)
  | some false => N.ex x e S1
  | none => False⟩
def sTryAs (t : TSd) (sb : Str → Option Bool) (i : Nat) (u : Addr → Str → TSd) : TSd := fun env S N => t env S (ndT sb i u N)
theorem moTryAs {t : TSd} {sb : Str → Option Bool} {i : Nat} {u : Addr → Str → TSd} (ht : MoS t) (hu : ∀ a nm, MoS (u a nm)) : MoS (sTryAs t sb i u) := fun env S A B l h => ht _ _ (ndT sb i u A) (ndT sb i u B) ⟨l.nx, l.rt, l.bk, l.ct, fun x e S1 q => by
  unfold ndT at q ⊢
  dsimp only at q ⊢
  split at q
  · exact ⟨q.1, fun a => hu _ _ _ _ (ndS i A) _ ⟨fun _ _ z => l.nx _ _ z, l.rt, fun _ _ z => l.bk _ _ z, fun _ _ z => l.ct _ _ z, fun _ _ _ z => z⟩ (q.2 a)⟩
  · exact l.ex _ _ _ q
  · exact q⟩ h
section
variable {P : Program} {w : World} {K : PySem.W.Frag} {mg : Str → Option Value} {base : Heap} {N : List Str} {sc : Scope} {vw : Vw} {k : Nat} {X : Cx} {W : WX}
theorem js_try_as {body suite : List Stmt} {b₀ : Stmt} {t : TSd} {sb : Str → Option Bool} {u : Addr → Str → TSd} {x n : Str} {C : Addr} {np pos pos' : Pos} (d : JD P w K mg base N sc vw k X W) (i : Nat) (hi : N[i]? = some n) (hl : i ∈ vw.lo) (hx : x ∈ vw.gs) (hm : mg x = some (.ref C))
    (hsb : ∀ nm b Cn, sb nm = some b → PySem.W.nsIn K mainGlobals nm = some (some (.ref Cn)) → PySem.W.exmOne K (.ref Cn) (.ref C) = some b)
    (hb : ∀ X2 W2, JD P w K mg base N sc vw k X2 W2 → JB X2 W2 body t) (mu : ∀ a nm, MoS (u a nm))
    (hsu : ∀ X2 a Dc nm, sb nm = some true → PySem.W.nsIn K mainGlobals nm = some (some (.ref Dc)) → JX K mg N sc vw a Dc X2 → JB X2 W0 (b₀ :: suite) (u a nm)) :
    JS X W (.Try body [.ExceptHandler (some (.Name x np)) (some n) (b₀ :: suite) pos'] [] [] pos) (sTryAs t sb i u) := by
  have hln : X.env.kindOf n = some .local := by
    show X.env.scope.names.lookup n = _
    rw [d.ss]
    exact d.sC.loc i hl n hi
  have nms : Names X x (.ref C) := ⟨d.toJC.gl hx, (d.sC.gl x hx).2.2, .inl (by rw [d.gg]; exact hm)⟩
  have jd : ∀ (W2 : WX) (pn : List (Addr × Obj)) (xe : Value → Shared → Prop), Takes (X.tr pn xe) W2 → PassesOwn (model X.prog X.w) X.A X.env xe → JD P w K mg base N sc vw k (X.tr pn xe) W2 := fun W2 pn xe tk po =>
    { prog := d.prog, ww := d.ww, kk := d.kk, gg := d.gg, bb := d.bb, nn := d.nn, ss := d.ss, sC := d.sC, nd := d.nd, calm := d.calm, room := d.room, tk := tk, kd := d.kd, po := po, fn := d.fn, hs := d.hs, hf := d.hf }
  have mt : MoS t := (hb _ _ d).mo
  have hps := ps_try_as (X := X) (x := x) (n := n) (c := .ref C) (i := i) (body := body) (suite := suite) (b₀ := b₀) (np := np) (pos := pos) (pos' := pos') (Wout := W) (tb := fun W2 => LS X.K W2 t)
    (ts := fun a cls dx M σ H => ∃ nm Dc, sb nm = some true ∧ PySem.W.nsIn X.K mainGlobals nm = some (some (.ref Dc)) ∧ cls = .ref Dc ∧ dx = none ∧ LS X.K W0 (u a nm) M σ H) d.hs d.hf (by rw [d.nn]; exact d.nd) (by rw [d.nn]; exact hi) hln nms d.tk (fun W2 pn xe tk po => (hb _ _ (jd W2 pn xe tk po)).ps) fun a oe cls dx pn hz hf => ?_
  · refine ⟨PS.imp hps fun M σ H h => ?_, moTryAs mt mu⟩
    obtain ⟨Z, env, S, re, rs, q⟩ := h
    refine ⟨Z, env, S, re, rs, mt _ _ (ndT sb i u (LN ⟨X.K, Z⟩ S H W M)) _ ⟨fun _ _ z => z, fun _ _ z => z, fun _ _ z => z, fun _ _ z => z, fun xc e S1 qx c dx σ1 H1 a1 re1 rx => ?_⟩ q⟩
    unfold ndT at qx
    dsimp only at qx
    obtain ⟨⟨Cn, hn, rfl⟩, hd⟩ := rx
    split at qx
    · rename_i hs1
      have hn' : PySem.W.nsIn K mainGlobals xc.nm = some (some (.ref Cn)) := by have z := hn; rw [← d.kk]; exact z
      refine ⟨true, by rw [d.kk]; exact hsb _ _ _ hs1 hn', fun _ a na => ?_, fun z => absurd z (by decide)⟩
      have dn : dx = none := by
        cases dx with
        | none => rfl
        | some _ => exact absurd qx.1 hd.1
      refine ⟨xc.nm, Cn, hs1, hn, rfl, dn, Z, _, S1, re1.set (.obj a) i, a1.rs, mu _ _ _ _ (ndS i (LN ⟨X.K, Z⟩ S H W M)) _ ⟨fun e' s z σ' H' a2 r2 => z _ H' (a1.trans a2) (r2.unset i), fun d' s z v H' a2 r2 => z v H' (a1.trans a2) r2, fun e' s z σ' H' a2 r2 => z _ H' (a1.trans a2) (r2.unset i), fun e' s z σ' H' a2 r2 => z _ H' (a1.trans a2) (r2.unset i), fun _ _ _ z => z.elim⟩ (qx.2 a)⟩
    · rename_i hs1
      have hn' : PySem.W.nsIn K mainGlobals xc.nm = some (some (.ref Cn)) := by have z := hn; rw [← d.kk]; exact z
      exact ⟨false, by rw [d.kk]; exact hsb _ _ _ hs1 hn', fun z => absurd z (by decide), fun _ => qx _ dx σ1 H1 a1 re1 ⟨⟨Cn, hn, rfl⟩, hd⟩⟩
    · exact qx.elim
  · refine ⟨fun pins s σ H M I hh => ?_⟩
    obtain ⟨nm, Dc, h1, h2, rfl, rfl, q⟩ := hh
    have h2' : PySem.W.nsIn K mainGlobals nm = some (some (.ref Dc)) := by rw [← d.kk]; exact h2
    exact (hsu (X.suite a ((a, oe) :: pn)) a Dc nm h1 h2' { kk := d.kk, gg := d.gg, nn := d.nn, ss := d.ss, sC := d.sC, nd := d.nd, xc := ⟨X, oe, pn, rfl, hz, hf⟩ }).ps.run pins s σ H M I q
end

/-! ### what the head tells of exceptions -/
def excCB (K : PySem.W.Frag) (D : Addr) : Bool := He.eqO (PySem.W.findIn K (.ref D) "__getattribute__") (some (some (.builtin "BaseException.__getattribute__"))) && (He.eqO (PySem.W.findIn K (.ref D) "__getattr__") (some none) && (decide (PySem.W.subIn K (.ref D) (.type "BaseException") = some true) && (PySem.W.hasDictIn K D && (He.eqO (PySem.W.findIn K (.ref D) "__class__") (some (some (.builtin "object.__class__"))) &&
  (He.eqO (PySem.W.specialIn K (.builtin "object.__class__") "__get__") (some (some (.builtin "getset_descriptor.__get__"))) && (decide (PySem.W.takesIn K (.builtin "object.__class__") = some true) && decide (PySem.W.mroIn K D (.type "object") = some true)))))))
theorem excC_ok {K : PySem.W.Frag} {D : Addr} (h : excCB K D = true) : ExcC K D := by
  obtain ⟨h1, h⟩ := He.ba h
  obtain ⟨h2, h⟩ := He.ba h
  obtain ⟨h3, h⟩ := He.ba h
  obtain ⟨h4, h⟩ := He.ba h
  obtain ⟨h5, h⟩ := He.ba h
  obtain ⟨h6, h⟩ := He.ba h
  obtain ⟨h7, h8⟩ := He.ba h
  exact ⟨He.eqO_ok h1, He.eqO_ok h2, of_decide_eq_true h3, h4, He.eqO_ok h5, He.eqO_ok h6, of_decide_eq_true h7, of_decide_eq_true h8⟩
/-- a class's value by its name -/
def clU (K : PySem.W.Frag) (x : Str) : Value := match PySem.W.nsIn K mainGlobals x with
  | some (some (.ref C)) => .ref C
  | _ => match bootBuiltins x with
    | some (.type T) => .type T
    | _ => .none
theorem clU_own {K : PySem.W.Frag} {mg : Str → Option Value} {x : Str} (c : (He.Fa.glo x).ok K = true) (hm : mg x = some (.ref (He.ga K x))) : JCl K mg x (clU K x) := by
  have e : PySem.W.nsIn K mainGlobals x = some (some (.ref (He.ga K x))) := He.eqO_ok c
  refine .inl ⟨_, hm, ?_⟩
  unfold clU
  rw [e]
theorem clU_blt {K : PySem.W.Frag} {mg : Str → Option Value} {x : Str} {T : String} (c : (He.Fa.free x).ok K = true) (hm : mg x = none) (hb : bootBuiltins x = some (.type T)) : JCl K mg x (clU K x) := by
  have e : PySem.W.nsIn K mainGlobals x = some none := He.eqO_ok c
  refine .inr ⟨hm, T, hb, ?_⟩
  unfold clU
  rw [e, hb]
def kitB (K : PySem.W.Frag) (D : Str) (xs : List Str) (b : Bool) : Bool := decide (PySem.W.kitAny K (.ref (He.ga K D)) (xs.map (clU K)) = some b)
def kit1B (K : PySem.W.Frag) (D x : Str) (b : Bool) : Bool := decide (PySem.W.kitOne K (.ref (He.ga K D)) (clU K x) = some b)
theorem ga_eq {K : PySem.W.Frag} {x : Str} {D : Addr} (h : PySem.W.nsIn K mainGlobals x = some (some (.ref D))) : He.ga K x = D := by
  unfold He.ga
  rw [h]

/-! ### keyword-only defaults that fill up -/
section
variable {P : Program} {w : World} {K : PySem.W.Frag} {mg : Str → Option Value} {base : Heap} {N ps : List Str} {vw : Vw} {k : Nat}
end

section
variable {P : Program} {w : World} {K : PySem.W.Frag} {mg : Str → Option Value} {base : Heap} {N : List Str} {sc : Scope} {vw : Vw} {k : Nat} {X : Cx} {W : WX}
/-- raise C('..'), C an own class under ValueError -/
theorem js_raiseV (c : JC P w K mg base N sc vw k X W) {x m : Str} {j : Nat} {p p2 p3 pos : Pos} (hx : x ∈ vw.gs) (hg : (He.Fa.glo x).ok K = true) (he : (He.Fa.exc x).ok K = true) (hm : mg x = some (.ref (He.ga K x))) : JS X W (.Raise (some (.Call (.Name x p) [.Constant (.str m) j p2] [] p3)) none pos) (sRaise x) := by
  obtain ⟨h1, h2, h3, h4⟩ := He.exc_ok he
  have e : PySem.W.nsIn K mainGlobals x = some (some (.ref (He.ga K x))) := He.eqO_ok hg
  have hk := c.kk
  subst hk
  exact js_raise c.calm c.tk e (pmk_own PySem.F.excBase_ValueError h1 (by rw [c.gg]; exact hm) h2 (raises_own h3 h4) (c.gl hx) (c.sC.gl x hx).2.2)
end
theorem all_at {l : List (PySem.W.Frag → Bool)} {K : PySem.W.Frag} (h : (l.all fun f => f K) = true) (i : Nat) {f : PySem.W.Frag → Bool} (e : l[i]? = some f) : f K = true := List.all_eq_true.mp h f (List.mem_of_getElem? e)
/-- one class alone may fly -/
def sbOne (x : Str) : Str → Option Bool := fun nm => if nm = x then some true else none
theorem sbOne_eq {x nm : Str} {b : Bool} (h : sbOne x nm = some b) : nm = x ∧ b = true := by
  unfold sbOne at h
  split at h
  · exact ⟨by assumption, (Option.some.inj h).symm⟩
  · cases h
end Bl

/-! a, *b, c = xs -/
namespace Bl
open PySem PySem.Spec PyProof.Rows L2
section
variable {prog : Program} {w : World} {A : Around} {E : Value → Shared → Prop} {s : Shared}
theorem walks_off {I ax : Addr} {n : Nat} {P : Nat → Value → Prop} {St : Nat → Heap → Prop} (W : Walks prog w A I [I, ax] [I] n P St) (i : Nat) (hi : i ≤ n) : Walks prog w A I [I, ax] [I] (n - i) (fun j v => P (i + j) v) (fun j h => St (i + j) h) where
  sub := W.sub
  frame := fun j h h' st k => W.frame (i + j) h h' st k
  item := fun j s Q E hj st hQ => W.item (i + j) s Q E (by omega) st fun v h' tk hp st' k => hQ v h' tk hp st' k
  done := fun s Q E st hQ => W.done s Q E (by have z : i + (n - i) = n := by omega
                                              rw [z] at st; exact st) hQ
  self := fun j s Q E st hQ => W.self (i + j) s Q E st hQ
theorem collect_off {T : String} (hT : T = "list_iterator" ∨ T = "tuple_iterator") {I ax : Addr} {items : Array Value} {St : Nat → Heap → Prop} (W : Walks prog w A.in1 I [I, ax] [I] items.size (fun j v => items[j]? = some v) St) (ht : ∀ j (s : Shared), St j s.heap → s.TypeIs (.ref I) T) (i : Nat) (hi : i ≤ items.size) (st : St i s.heap) (hI : I < s.heap.objs.size) (hax : ax < s.heap.objs.size) (hsz : items.size ≤ sizeLine) {Q : List Value → Shared → Prop}
    (hQ : ∀ h' tk, (∀ b o, b ≠ I → s.heap.get? b = some o → h'.get? b = some o) → Q (items.toList.drop i) { s with heap := h', toks := tk }) : wpAny (model prog w) A (collect (.ref I)) Q E s := by
  refine wpAny_collect_iter (T := T) (by rcases hT with h | h <;> simp [h]) (walks_off W i hi).toS (fun j s h => ht _ s h) st (fun b hb => ?_) (List.mem_cons_self ..) (fun s' acc hm ha => ?_) (by omega)
  · rcases List.mem_cons.mp hb with rfl | hb
    · exact hI
    · rw [List.mem_singleton.mp hb]; exact hax
  · have e : acc.toList = items.toList.drop i := by
      apply List.ext_getElem?
      intro j
      rw [List.getElem?_drop, Array.getElem?_toList, Array.getElem?_toList]
      by_cases hj : j < acc.size
      · have h1 : acc[j]? = some acc[j] := by simp [hj]
        rw [h1, ha.2 j _ h1]
      · have := ha.1
        rw [Array.getElem?_eq_none (by omega), Array.getElem?_eq_none (by omega)]
    rw [e, Moved.eq_with hm]
    exact hQ _ _ fun b o hb h => hm.heap b o (fun z => hb (List.mem_singleton.mp z)) h
theorem star_rest {I : Addr} {items : Array Value} {i aft : Nat} {Q : List Value → Shared → Prop} (hle : i + aft ≤ items.size) (hsz : items.size ≤ sizeLine)
    (hc : ∀ {R : List Value → Shared → Prop}, (∀ h' tk, (∀ b o, b ≠ I → s.heap.get? b = some o → h'.get? b = some o) → R (items.toList.drop i) { s with heap := h', toks := tk }) → wpAny (model prog w) A (collect (.ref I)) R E s)
    (hQ : ∀ (h' h'' : Heap) tk (p : Addr), (∀ b o, b ≠ I → s.heap.get? b = some o → h'.get? b = some o) → h'' = h'.push { cls := .type "list", data := .seq ((items.toList.drop i).take (items.size - i - aft)).toArray } → p = h'.objs.size →
      Q (items.toList.take i ++ [.ref p] ++ (items.toList.drop i).drop (items.size - i - aft)) { s with heap := h'', toks := tk }) :
    wpAny (model prog w) A (do
      let rest ← holding (items.toList.take i) (collect (.ref I))
      let after := i + 1 + aft - 1 - i
      if rest.length < after then
        rule "unpack.star.too-few"
        raiseError "ValueError" s!"not enough values to unpack (expected at least {i + 1 + aft - 1}, got {i + rest.length})"
      let mid := rest.length - after
      return (items.toList.take i) ++ [← newList (rest.take mid)] ++ rest.drop mid : Sem (List Value)) Q E s := by
  refine wpAny_bind (wpAny_holding (hc fun h' tk hk => ?_))
  have e1 : i + 1 + aft - 1 - i = aft := by omega
  have e2 : (items.toList.drop i).length = items.size - i := by simp
  dsimp only
  rw [e1, e2]
  rw [if_neg (by omega)]
  show wpAny _ _ (newList ((items.toList.drop i).take (items.size - i - aft)) >>= _) _ _ _
  refine wpAny_bind ?_
  unfold newList
  refine wpAny_newObj_type ?_ (by show (((items.toList.drop i).take (items.size - i - aft)).toArray).size ≤ _; simp only [List.size_toArray, List.length_take, List.length_drop, Array.length_toList]; omega)
  exact wpAny_pure (hQ h' _ tk _ hk rfl rfl)

def starQ (s : Shared) (items : Array Value) (i aft : Nat) (Q : List Value → Shared → Prop) : Prop := ∀ (h' h'' : Heap) (tk : Nat) (p : Addr), (∀ b o, s.heap.get? b = some o → h'.get? b = some o) → h'' = h'.push { cls := .type "list", data := .seq ((items.toList.drop i).take (items.size - i - aft)).toArray } → p = h'.objs.size →
      Q (items.toList.take i ++ [.ref p] ++ (items.toList.drop i).drop (items.size - i - aft)) { s with heap := h'', toks := tk }
theorem star_itemsL {l : Addr} {items : Array Value} {i aft : Nat} {Q : List Value → Shared → Prop} (hh : A.handled = none) (hl : s.heap.IsList l items) (hle : i + aft ≤ items.size) (hsz : items.size ≤ sizeLine) (hQ : starQ s items i aft Q) : wpAny (model prog w) A (unpackItems (.ref l) (i + 1 + aft) (some i)) Q E s := by
  have hlt : l ≠ s.heap.objs.size := by obtain ⟨o, ho, _⟩ := hl; exact Nat.ne_of_lt (Heap.lt_size ho)
  have hl2 : l < s.heap.objs.size := by obtain ⟨o, ho, _⟩ := hl; exact Heap.lt_size ho
  unfold unpackItems
  refine wpAny_bind ?_
  unfold notIterableAtAll
  refine wpAny_bind (wpAny_specialOf hl.typeIs slot_list_iter.lookup ?_)
  refine wpAny_pure ?_
  simp only [Bool.false_eq_true, if_false]
  refine wpAny_bind (wpAny_holding (wpAny_pyIter_list hl ?_))
  refine wpAny_bind (wpAny_holding (PySem.W.kun_draw hlt i 0 _ _ ⟨_, Heap.get?_push_size _ rfl, rfl, rfl⟩ (hl.push _) (by omega) fun h₁ hit₁ hs₁ => ?_))
  rw [Nat.zero_add] at hit₁
  rw [List.drop_zero]
  have e0 : (items.toList.take i).length = i := by rw [List.length_take, Array.length_toList]; omega
  rw [e0, if_neg (Nat.lt_irrefl i)]
  have hl₁ : h₁.IsList l items := (hl.push _).extBut hs₁.extBut hlt
  refine star_rest (I := s.heap.objs.size) hle hsz (fun hR => ?_) fun h' h'' tk p hk e1 e2 => hQ h' h'' tk p (fun b o hb => hk b o (Nat.ne_of_lt (Heap.lt_size hb)) (hs₁.extBut b o (Nat.ne_of_lt (Heap.lt_size hb)) (Heap.get?_push_of_some _ hb))) e1 e2
  obtain ⟨oi, hoi, _⟩ := id hit₁
  obtain ⟨ol, hol, _⟩ := id hl₁
  exact collect_off (.inl rfl) (Walks.list (A := A.in1) hh _ l hlt items) (fun j s h => let ⟨o, ho, hc, _⟩ := h.1; ⟨o, ho, hc⟩) i (by omega) ⟨hit₁, hl₁⟩ (Heap.lt_size hoi) (Heap.lt_size hol) hsz hR
theorem star_itemsT {l : Addr} {items : Array Value} {i aft : Nat} {Q : List Value → Shared → Prop} (hh : A.handled = none) (hl : IsTup s.heap l items) (hle : i + aft ≤ items.size) (hsz : items.size ≤ sizeLine) (hQ : starQ s items i aft Q) : wpAny (model prog w) A (unpackItems (.ref l) (i + 1 + aft) (some i)) Q E s := by
  have hlt : l ≠ s.heap.objs.size := by obtain ⟨o, ho, _⟩ := hl; exact Nat.ne_of_lt (Heap.lt_size ho)
  unfold unpackItems
  refine wpAny_bind ?_
  unfold notIterableAtAll
  refine wpAny_bind (wpAny_specialOf hl.typeIs slot_tuple_iter.lookup ?_)
  refine wpAny_pure ?_
  simp only [Bool.false_eq_true, if_false]
  refine wpAny_bind (wpAny_holding (iter_tuple hl ?_))
  refine wpAny_bind (wpAny_holding (draw_tuple hlt i 0 _ _ ⟨_, Heap.get?_push_size _ rfl, rfl, rfl⟩ (hl.push _) (by omega) fun h₁ hit₁ hs₁ => ?_))
  rw [Nat.zero_add] at hit₁
  rw [List.drop_zero]
  have e0 : (items.toList.take i).length = i := by rw [List.length_take, Array.length_toList]; omega
  rw [e0, if_neg (Nat.lt_irrefl i)]
  have hl₁ : IsTup h₁ l items := (hl.push _).extBut hs₁.extBut hlt
  refine star_rest (I := s.heap.objs.size) hle hsz (fun hR => ?_) fun h' h'' tk p hk e1 e2 => hQ h' h'' tk p (fun b o hb => hk b o (Nat.ne_of_lt (Heap.lt_size hb)) (hs₁.extBut b o (Nat.ne_of_lt (Heap.lt_size hb)) (Heap.get?_push_of_some _ hb))) e1 e2
  obtain ⟨oi, hoi, _⟩ := id hit₁
  obtain ⟨ol, hol, _⟩ := id hl₁
  exact collect_off (.inr rfl) (Walks.tuple (A := A.in1) hh _ l hlt items) (fun j s h => let ⟨o, ho, hc, _⟩ := h.1; ⟨o, ho, hc⟩) i (by omega) (show Heap.IsTupleIter h₁ _ l i ∧ Heap.IsTuple h₁ l items from ⟨hit₁, hl₁⟩) (Heap.lt_size hoi) (Heap.lt_size hol) hsz hR
end
/-- the items as they are stored: i ahead, those between as a list, aft behind -/
def starD (i aft : Nat) (ds : List D) : List D := ds.take i ++ [.lst ((ds.drop i).take (ds.length - i - aft))] ++ (ds.drop i).drop (ds.length - i - aft)
def starV (i aft : Nat) (p : Addr) (vs : List V) : List V := vs.take i ++ [.ref p] ++ (vs.drop i).drop (vs.length - i - aft)
def LGstar (K : PySem.W.Frag) (i aft : Nat) (gs : List Tg) : TG := fun v σ H Q => ∃ Z env S d ds env', RE ⟨K, Z⟩ S H env σ ∧ RS ⟨K, Z⟩ S H ∧ Rp ⟨K, Z⟩ S H d v ∧ itemsOf S d = some ds ∧ i + aft ≤ ds.length ∧ asgL S gs (starD i aft ds) env = some env' ∧
  ∀ σ' H', Aft ⟨K, Z⟩ S H S H' → RE ⟨K, Z⟩ S H' env' σ' → Q σ' H'
section
variable {X : Cx} {W : WX}
theorem vals_star {i aft : Nat} {p : Addr} {vs : List V} {its : List Value} (r : Vals vs its) : Vals (starV i aft p vs) (its.take i ++ [.ref p] ++ (its.drop i).drop (its.length - i - aft)) := by
  unfold starV
  rw [r.length]
  exact ((r.take i).append (.cons (show L2.RelV (.ref p) (.ref p) from rfl) .nil)).append ((r.drop i).drop _)
theorem rpl_star {K : Kz} {S : Sto} {H : Hp} {i aft : Nat} {p : Addr} {ds : List D} {vs : List V} (rs : RS K S H) (hp : H p = none) (r : RpL K S H ds vs) : Aft K S H S (upd H p (.lst ((vs.drop i).take (vs.length - i - aft)))) ∧ RpL K S (upd H p (.lst ((vs.drop i).take (vs.length - i - aft)))) (starD i aft ds) (starV i aft p vs) := by
  unfold starD starV
  rw [r.length]
  obtain ⟨a, rn⟩ := Rp.newL rs hp ((r.drop i).take (vs.length - i - aft))
  refine ⟨a, ?_⟩
  have r2 := RpL.step a.st rs _ _ r
  exact ((r2.take i).append (.cons rn .nil)).append ((r2.drop i).drop _)
theorem pg_star {es es' : List Expr} {k i aft : Nat} {gs : List Tg} {pos : Pos} (hc : X.calm = true) (h : JGs X es' gs) (hm : (assignEach es X.env).map (·.2) = (assignEach es' X.env).map (·.2)) (hn : (assignEach es X.env).length = i + 1 + aft) (hst : (assignEach es X.env).findIdx? (·.1) = some i) : PG X (.Tuple es k pos) (LGstar X.K i aft gs) := by
  refine ⟨fun pins s σ H v u Q I r hw => ?_⟩
  obtain ⟨Z, env, S, d, ds, env', re, rs, rp, e1, hle, e2, q⟩ := hw
  rw [PyProof.Rows.assign_Tuple]
  refine wpAny_bind (wpAny_standAt ?_)
  unfold unpack
  rw [hn, hst]
  have fin : ∀ (vs : List V) (its : List Value), vs.length ≤ sizeLine → RpL ⟨X.K, Z⟩ S H ds vs → Vals vs its → starQ s its.toArray i aft fun us s1 => wpAny (model X.prog X.w) X.A (assignInOrder ((assignEach es X.env).map (·.2)) us) (fun _ s' => ∃ σ' H', Inv X pins σ' H' s' ∧ Q σ' H') X.xe s1 := by
    intro vs its hz rl rv h' h'' tk p hk eh ep
    have I1 : Inv X pins σ H { s with heap := h', toks := s.toks } := I.kept hk
    have hp : H p = none := by rw [ep]; exact I1.hok.fresh (Nat.le_refl _)
    obtain ⟨a, r2⟩ := rpl_star (i := i) (aft := aft) rs hp rl
    have I2 : Inv X pins σ (upd H p (.lst ((vs.drop i).take (vs.length - i - aft)))) { s with heap := h'', toks := tk } := by
      rw [eh, ep]
      refine I1.laid (t' := tk) (fun b u e => Heap.get?_push_of_some _ e) (Nat.le_refl _) ⟨?_, (its.drop i).take (its.length - i - aft), 0, ?_, ?_⟩
      · rw [List.length_take, List.length_drop]; omega
      · rw [rv.length]; exact (rv.drop i).take _
      · have := Heap.get?_push_size h' (o := { cls := .type "list", data := .seq ((its.toArray.toList.drop i).take (its.toArray.size - i - aft)).toArray }) rfl
        simpa using this
    rw [hm]
    refine h.pg.run pins _ σ _ (starV i aft p vs) _ Q I2 ?_ ⟨Z, env, S, _, env', re.step a.st rs, a.rs, r2, e2, fun σ' r' _ => q σ' _ a r'⟩
    have := vals_star (i := i) (aft := aft) (p := p) rv
    simpa using this
  have fl : ∀ (a : Addr) (vs : List V), SqL X.K H a vs → RpL ⟨X.K, Z⟩ S H ds vs → wpAny (model X.prog X.w) X.A (do assignInOrder ((assignEach es X.env).map (·.2)) (← holding [.ref a] (unpackItems (.ref a) (i + 1 + aft) (some i)))) (fun _ s' => ∃ σ' H', Inv X pins σ' H' s' ∧ Q σ' H') X.xe s := by
    intro a vs h1 rl
    obtain ⟨its, rv, pl, hz⟩ := I.list h1
    have l1 := rl.length
    have l2 := rv.length
    exact wpAny_bind (wpAny_holding (star_itemsL (I.ok.hd hc) pl.isList (by simp only [List.size_toArray]; omega) (by simp only [List.size_toArray]; omega) (fin vs its hz rl rv)))
  unfold itemsOf at e1
  cases rp with
  | tup h1 rl =>
    cases e1
    cases r
    obtain ⟨its, rv, ht, hz⟩ := I.tuple h1
    have l1 := rl.length
    have l2 := rv.length
    exact wpAny_bind (wpAny_holding (star_itemsT (I.ok.hd hc) ht (by simp only [List.size_toArray]; omega) (by simp only [List.size_toArray]; omega) (fin _ its hz rl rv)))
  | lst h1 _ _ rl =>
    cases e1
    cases r
    exact fl _ _ (.inl h1) rl
  | lstK h1 rl =>
    cases e1
    cases r
    exact fl _ _ (SqL.ofK h1) rl
  | ref a =>
    obtain ⟨vs, h1, rl⟩ := rs.at_ a ds e1
    cases r
    exact fl _ _ (SqL.of h1) rl
  | _ => cases e1
end
/-- a, *b, c = x -/
def starK (i aft : Nat) (gs : List Tg) (d : D) (env : Ev) (S : Sto) (nx : Ev → Sto → Prop) : Prop := match itemsOf S d with
  | some ds => i + aft ≤ ds.length ∧ match asgL S gs (starD i aft ds) env with
    | some e => nx e S
    | none => False
  | none => False
def sStar (te : TEd) (i aft : Nat) (gs : List Tg) : TSd := fun env S N => te env S (fun d S1 => starK i aft gs d env S1 N.nx) fun x S1 => N.ex x env S1
theorem moStar {te : TEd} {i aft : Nat} {gs : List Tg} (h : MoE te) : MoS (sStar te i aft gs) := fun env S A B l q => h _ _ _ _ _ _ (fun d S1 q1 => by
  unfold starK at q1 ⊢
  split at q1 <;> first | exact q1.elim | skip
  refine ⟨q1.1, ?_⟩
  have q2 := q1.2
  split at q2 <;> first | exact q2.elim | exact l.nx _ _ q2) (fun x S1 q1 => l.ex _ _ _ q1) q
theorem js_star {X : Cx} {W : WX} {e : Expr} {te : TEd} {es es' : List Expr} {k i aft : Nat} {gs : List Tg} {tpos pos : Pos} (hc : X.calm = true) (he : JE X W e te) (h : JGs X es' gs) (hn : (assignEach es X.env).length = i + 1 + aft := by rfl) (hst : (assignEach es X.env).findIdx? (·.1) = some i := by rfl) (hm : (assignEach es X.env).map (·.2) = (assignEach es' X.env).map (·.2) := by rfl)
    (hs : swapsWithSole [.Tuple es k tpos] e pos.line X.env = pure false := by rfl) (hw : swappedStores [.Tuple es k tpos] e X.env = pure none := by rfl) (h1 : (assignEach [.Tuple es k tpos] X.env).map (·.2) = [assign (.Tuple es k tpos) X.env] := by rfl) :
    JS X W (.Assign [.Tuple es k tpos] e pos) (sStar te i aft gs) := by
  refine ⟨PS.imp (ps_asg he.pe (pg_star hc h hm hn hst) hs hw h1) fun N σ H h => ?_, moStar he.mo⟩
  obtain ⟨Z, env, S, re, rs, q⟩ := h
  refine LE.of he.mo re rs q (fun d S1 v H1 q1 a1 r1 => ?_) fun x S1 c dx H1 q1 a1 r1 => exS re rs q1 a1 r1
  unfold starK at q1
  split at q1 <;> first | exact q1.elim | skip
  rename_i ds ed
  obtain ⟨hle, q2⟩ := q1
  split at q2 <;> first | exact q2.elim | skip
  rename_i e1 ee
  exact ⟨Z, env, S1, d, ds, e1, re.step a1.st rs, a1.rs, r1, ed, hle, ee, fun σ' H2 a2 r' => q2 σ' H2 (a1.trans a2) r'⟩
end Bl

/-! enumerate, zip, reversed over lists and tuples -/
namespace Bl
open PySem PySem.Spec PyProof.Rows L2
section
variable {prog : Program} {w : World} {A : Around} {E : Value → Shared → Prop} {s : Shared}
end
/-! ### the same over data -/
def enumD (ds : List D) : List D := (List.range ds.length).zipWith (fun (i : Nat) d => D.tup [.int i, d]) ds
def zipD (xs ys : List D) : List D := xs.zipWith (fun x y => D.tup [x, y]) ys
def seqD : D → Option (List D)
  | .tup ds => some ds
  | .lst ds => some ds
  | _ => none
def iEnumD (t : TEd) : TAd := fun env S Q E => t env S (fun d S1 => match seqD d with | some ds => Q (enumD ds) S1 | none => False) E
def iRevD (t : TEd) : TAd := fun env S Q E => t env S (fun d S1 => match seqD d with | some ds => Q ds.reverse S1 | none => False) E
def zipK (x y : D) (S : Sto) (Q : List D → Sto → Prop) : Prop := match x, y with
  | .tup xs, .tup ys => Q (zipD xs ys) S
  | .lst xs, .lst ys => Q (zipD xs ys) S
  | _, _ => False
def iZipD (t u : TEd) : TAd := fun env S Q E => t env S (fun x S1 => u env S1 (fun y S2 => zipK x y S2 Q) E) E
theorem moEnumD {t : TEd} (ht : MoE t) : MoE (iEnumD t) := fun env S Q Q' E E' h he q => ht _ _ _ _ _ _ (fun d S1 q1 => by
  split at q1 <;> first | exact h _ _ q1 | exact q1.elim) he q
theorem moRevD {t : TEd} (ht : MoE t) : MoE (iRevD t) := fun env S Q Q' E E' h he q => ht _ _ _ _ _ _ (fun d S1 q1 => by
  split at q1 <;> first | exact h _ _ q1 | exact q1.elim) he q
theorem moZipD {t u : TEd} (ht : MoE t) (hu : MoE u) : MoE (iZipD t u) := fun env S Q Q' E E' h he q => ht _ _ _ _ _ _ (fun x S1 q1 => hu _ _ _ _ _ _ (fun y S2 q2 => by
  unfold zipK at q2 ⊢
  split at q2 <;> first | exact h _ _ q2 | exact q2.elim) he q1) he q
section
variable {P : Program} {w : World} {K : PySem.W.Frag} {mg : Str → Option Value} {base : Heap} {N : List Str} {sc : Scope} {vw : Vw} {k : Nat} {X : Cx} {W : WX}
end
end Bl

/-! {"..": x, ..}.get(k, y) -/
namespace Bl
open PySem PySem.Spec PyProof.Rows L2
section
variable {K : Kz} {S : Sto} {H : Hp} {p : Addr} {ks ls : List (Key × V)}
mutual
theorem Rp.dk (hp : H p = some (.dK ks)) : ∀ (d : D) (v : V), Rp K S H d v → Rp K S (upd H p (.dK ls)) d v
  | .non, _, h => by cases h; exact .non
  | .bl b, _, h => by cases h; exact .bl b
  | .int i, _, h => by cases h; exact .int i
  | .str x, _, h => by cases h; exact .str x
  | .tup ds, _, h => by
    cases h with
    | tup hs ha =>
      refine .tup ?_ (RpL.dk hp ds _ ha)
      rcases hs with (h | ⟨o, h⟩) | h
      · exact .inl (.inl (by rw [upd_ne (ne_of h hp (by intro z; cases z))]; exact h))
      · exact .inl (.inr ⟨o, by rw [upd_ne (ne_of h hp (by intro z; cases z))]; exact h⟩)
      · exact .inr h
  | .lst ds, _, h => by
    cases h with
    | lst hs hn hz ha =>
      refine .lst ?_ hn hz (RpL.dk hp ds _ ha)
      rcases hs with h | ⟨o, h⟩
      · exact .inl (by rw [upd_ne (ne_of h hp (by intro z; cases z))]; exact h)
      · exact .inr ⟨o, by rw [upd_ne (ne_of h hp (by intro z; cases z))]; exact h⟩
    | lstK hs ha => exact .lstK hs (RpL.dk hp ds _ ha)
  | .ref a, _, h => by cases h; exact .ref a
  | .obj a, _, h => by cases h; exact .obj a
theorem RpL.dk (hp : H p = some (.dK ks)) : ∀ (ds : List D) (vs : List V), RpL K S H ds vs → RpL K S (upd H p (.dK ls)) ds vs
  | [], _, h => by cases h; exact .nil
  | d :: ds, _, h => by
    cases h with
    | cons h1 h2 => exact .cons (Rp.dk hp d _ h1) (RpL.dk hp ds _ h2)
end
theorem RS.dk (hp : H p = some (.dK ks)) (rs : RS K S H) : RS K S (upd H p (.dK ls)) := by
  refine ⟨fun a ds e => ?_, fun b hb => ?_⟩
  · obtain ⟨vs, q, r⟩ := rs.at_ a ds e
    exact ⟨vs, by rw [upd_ne (ne_of q hp (by intro z; cases z))]; exact q, RpL.dk hp _ _ r⟩
  · obtain ⟨n, vs, q⟩ := rs.hid b hb
    exact ⟨n, vs, by rw [upd_ne (ne_of q hp (by intro z; cases z))]; exact q⟩
end
/-- a display with texts as keys: the values -/
def lookD : List Str → List D → Str → Option D
  | k :: ks, d :: ds, x => if x = k then some d else lookD ks ds x
  | _, _, _ => none
def dGetL (ks : List Str) (ta : TAd) (ty tx : TEd) : TEd := fun env S Q E => ta env S (fun ds S1 => ds.length = ks.length ∧ ty env S1 (fun y S2 => tx env S2 (fun z S3 => match y with
  | .str x => Q ((lookD ks ds x).getD z) S3
  | _ => False) E) E) E
theorem moGetL {ks : List Str} {ta : TAd} {ty tx : TEd} (h1 : MoE ta) (h2 : MoE ty) (h3 : MoE tx) : MoE (dGetL ks ta ty tx) := fun env S Q Q' E E' h he q => h1 _ _ _ _ _ _ (fun ds S1 q1 => ⟨q1.1, h2 _ _ _ _ _ _ (fun y S2 q2 => h3 _ _ _ _ _ _ (fun z S3 q3 => by
  cases y <;> first | exact h _ _ q3 | exact q3) he q2) he q1.2⟩) he q
/-- the pairs of a display: constant keys, values -/
structure PDs (X : Cx) (W : WX) (pos : Pos) (keys : List (Option Expr)) (values : List Expr) (ks : List Str) (ta : TAd) : Prop where
  pp : ∃ trs, PPs X pos keys values trs ∧ ∀ Z env S σ H (Q : List (V × V) → Hp → Prop), RE ⟨X.K, Z⟩ S H env σ → RS ⟨X.K, Z⟩ S H → ta env S (fun ds S' => ∀ vs H', Aft ⟨X.K, Z⟩ S H S' H' → RpL ⟨X.K, Z⟩ S' H' ds vs → vs.length = ks.length ∧ Q ((ks.zip vs).map fun q => (V.str q.1, q.2)) H') (PX ⟨X.K, Z⟩ S H σ W) → tPairs trs σ H Q
  mo : MoE ta
end Bl

/-! min(xs), max(xs) of a list of whole numbers -/
namespace Bl
open PySem PySem.Spec PyProof.Rows L2
section
variable {X : Cx}
end
end Bl

/-! tables of the module with words as keys; min, max of a tuple; defs that call themselves -/
namespace Bl
open PySem PySem.Spec PyProof.Rows L2
section
variable {P : Program} {w : World} {K : PySem.W.Frag} {mg : Str → Option Value} {base : Heap} {N : List Str} {sc : Scope} {vw : Vw} {k : Nat} {X : Cx} {W : WX} {a : Expr} {ta : TEd}
end
/-! ### the head's reading, with tables -/
structure TpW (fa : List He.Fa) (fn : List He.DefD) (bx : PySem.W.Frag → Bool) (ts : List He.Tab) (w : World) (K : PySem.W.Frag) (mg : Str → Option Value) : Prop extends Tp fa fn bx K mg where
  tab : ∀ (i : Nat) (t : He.Tab), ts[i]? = some t → ∃ es n, KDict K w (t.1 K) es n
  it : ∀ (x : Str) (i : Int), (He.Fa.int x i).ok K = true → ∃ t, mg x = some (.int i t)
theorem TpW.int {fa : List He.Fa} {fn : List He.DefD} {bx : PySem.W.Frag → Bool} {ts : List He.Tab} {w : World} {K : PySem.W.Frag} {mg : Str → Option Value} (T : TpW fa fn bx ts w K mg) (i : Nat) {x : Str} {v : Int} (h : fa[i]? = some (.int x v) := by rfl) : ∃ t, mg x = some (.int v t) := T.it x v (T.sy.fact i h)
theorem TpW.mk' {fa : List He.Fa} {fn : List He.DefD} {bx : PySem.W.Frag → Bool} {ts : List He.Tab} {w : World} {K : PySem.W.Frag} {mg : Str → Option Value} {h : Heap} (X : K.In h) (G : h.Ns mainGlobals mg) (c : He.SaysT fa fn ts w K ∧ bx K = true) : TpW fa fn bx ts w K mg :=
  ⟨Tp.mk' X G ⟨c.1.d, c.2⟩, fun i _ e => c.1.tab i e, fun _ _ q => He.int_ok X G q⟩
end Bl

/-! tables of the module with words as keys, asked for any text; tables written at the spot -/
namespace Bl
open PySem PySem.Spec PyProof.Rows L2
abbrev WL := List (Str × Int)
def lookW : WL → Str → Option Int
  | [], _ => none
  | (k, v) :: r, z => if k = z then some v else lookW r z
def ent1 (e : DictEntry) (k : Str) (v : Int) : Bool := match e.key, e.val with
  | .str s _, .int i _ => decide (s = k) && decide (i = v)
  | _, _ => false
def entB : List DictEntry → WL → Bool
  | [], [] => true
  | e :: es, (k, v) :: r => ent1 e k v && entB es r
  | _, _ => false
def kdW (K : PySem.W.Frag) (x : Str) (l : WL) : Bool := match K.lookup (He.ga K x) with
  | some ⟨_, _, .dict es _, _⟩ => entB es.toList l
  | _ => false
theorem ent1_at {e : DictEntry} {k : Str} {v : Int} (h : ent1 e k v = true) : (∃ t, e.key = .str k t) ∧ ∃ t, e.val = .int v t := by
  unfold ent1 at h
  split at h
  · rename_i s t i t' h1 h2
    obtain ⟨a, b⟩ := He.ba h
    have a := of_decide_eq_true a
    have b := of_decide_eq_true b
    subst a b
    exact ⟨⟨_, h1⟩, _, h2⟩
  · cases h
theorem entB_at : ∀ {es : List DictEntry} {l : WL}, entB es l = true → ∀ z : Str, (es.any (·.refKey) = false) ∧ ((lookW l z = none ∧ es.find? (·.key.isStr z) = none) ∨ ∃ i e t, lookW l z = some i ∧ es.find? (·.key.isStr z) = some e ∧ e.val = .int i t)
  | [], [], _, z => ⟨rfl, .inl ⟨rfl, rfl⟩⟩
  | [], _ :: _, h, _ => by cases h
  | _ :: _, [], h, _ => by cases h
  | e :: es, (k, v) :: r, h, z => by
    obtain ⟨h1, h2⟩ := He.ba (show (ent1 e k v && entB es r) = true from h)
    obtain ⟨⟨t, ek⟩, t2, ev2⟩ := ent1_at h1
    obtain ⟨i1, i2⟩ := entB_at h2 z
    have rk : e.refKey = false := by
      unfold DictEntry.refKey
      rw [ek]
    have is : e.key.isStr z = (k == z) := by rw [ek]; rfl
    refine ⟨by rw [List.any_cons, rk, i1]; rfl, ?_⟩
    show ((if k = z then some v else lookW r z) = none ∧ _) ∨ ∃ i e' t, (if k = z then some v else lookW r z) = some i ∧ _
    rw [List.find?_cons, is]
    by_cases hk : k = z
    · subst hk
      rw [if_pos rfl, show (k == k) = true from beq_self_eq_true k]
      exact .inr ⟨v, e, t2, rfl, rfl, ev2⟩
    · rw [if_neg hk, show (k == z) = false from beq_false_of_ne hk]
      exact i2
theorem kdW_at {K : PySem.W.Frag} {x : Str} {l : WL} (h : kdW K x l = true) (z : Str) : ∃ r, PySem.W.nsIn K (He.ga K x) z = some r ∧ r.isSome = (lookW l z).isSome ∧ ∀ i, lookW l z = some i → ∃ t, r = some (.int i t) := by
  unfold kdW at h
  unfold PySem.W.nsIn
  split at h
  · rename_i a b es n c e
    rw [e]
    dsimp only
    obtain ⟨h1, h2⟩ := entB_at h z
    rcases h2 with ⟨e1, e2⟩ | ⟨i, e', t, e1, e2, e3⟩
    · rw [e1, e2, h1]
      exact ⟨none, rfl, rfl, fun i z => by cases z⟩
    · rw [e1, e2]
      exact ⟨some e'.val, rfl, rfl, fun j z => by cases z; exact ⟨t, by rw [e3]⟩⟩
  · cases h
def dInW (l : WL) (neg : Bool) (te : TEd) : TEd := fun env S Q E => te env S (fun d S1 => match d with
  | .str z => Q (.bl (neg != (lookW l z).isSome)) S1
  | _ => False) E
def dIxW (l : WL) (te : TEd) : TEd := fun env S Q E => te env S (fun d S1 => match d with
  | .str z => match lookW l z with
    | some i => Q (.int i) S1
    | none => False
  | _ => False) E
theorem moInW {l : WL} {neg : Bool} {te : TEd} (h : MoE te) : MoE (dInW l neg te) := fun env S Q Q' E E' hq he q => h _ _ _ _ _ _ (fun d S1 q1 => by
  cases d <;> first | exact q1.elim | exact hq _ _ q1) he q
theorem moIxW {l : WL} {te : TEd} (h : MoE te) : MoE (dIxW l te) := fun env S Q Q' E E' hq he q => h _ _ _ _ _ _ (fun d S1 q1 => by
  cases d <;> first | exact q1.elim | skip
  dsimp only at q1 ⊢
  split at q1 <;> first | exact q1.elim | exact hq _ _ q1) he q
section
variable {P : Program} {w : World} {K : PySem.W.Frag} {mg : Str → Option Value} {base : Heap} {N : List Str} {sc : Scope} {vw : Vw} {k : Nat} {X : Cx} {W : WX} {a : Expr} {ta : TEd}
theorem ninwR {l : WL} {x : Str} (mo : MoE ta) (hk : kdW X.K x l = true) {σ : L2.St} {H : Hp} {Q : VK} (h : LE X.K W (dInW l true ta) σ H Q) : LE X.K W ta σ H fun v H1 => ∃ z r, v = .str z ∧ V.ref (He.ga X.K x) = .ref (He.ga X.K x) ∧ PySem.W.nsIn X.K (He.ga X.K x) z = some r ∧ Q (.bl (!r.isSome)) H1 := by
  obtain ⟨Z, env, S, re, rs, q⟩ := h
  refine LE.of mo re rs q (fun d S1 v H1 q1 a1 r1 => ?_) fun x S1 c dx H1 q1 a1 r1 => q1 c dx H1 a1 r1
  cases d <;> first | exact q1.elim | skip
  rename_i z
  dsimp only at q1
  cases r1
  obtain ⟨r, e1, e2, _⟩ := kdW_at hk z
  refine ⟨z, r, rfl, rfl, e1, ?_⟩
  have := q1 _ H1 a1 (.bl _)
  rw [e2]
  cases h : (lookW l z).isSome <;> (rw [h] at this; exact this)
theorem jt_notInW (c : JC P w K mg base N sc vw k X W) {x : Str} {l : WL} {pos p2 : Pos} (hx : x ∈ vw.gs) (hm : mg x = some (.ref (He.ga K x))) (KD : ∃ es n, KDict K w (He.ga K x) es n) (hk : kdW K x l = true) (ha : JE X W a ta) : JT X W (.Compare a [.NotIn] [.Name x p2] pos) (tbl (dInW l true ta)) := by
  have h1 := c.kk
  have h2 := c.ww
  subst h1 h2
  obtain ⟨es, n, D⟩ := KD
  refine ⟨⟨fun pins s σ H Q I h => ?_⟩, moTbl (moInW ha.mo)⟩
  refine wpAny_isTrue_Compare1 (thn (bin ha.pe (pe_glob (v := .ref (He.ga X.K x)) (c.gl hx) (by rw [c.gg]; exact hm) rfl (c.sC.gl x hx).2.2) I (R := fun v y H2 => ∃ z r, v = .str z ∧ y = .ref (He.ga X.K x) ∧ PySem.W.nsIn X.K (He.ga X.K x) z = some r ∧ ∃ c, V.bl (!r.isSome) = .bl c ∧ Q c H2) (ninwR ha.mo hk (tblV (moInW ha.mo) h)) fun v u s2 x' y H2 I2 rx ry q => op_notIn_kd D pins s2 σ H2 x' y v u (fun v H1 => ∃ c, v = .bl c ∧ Q c H1) I2 rx ry q) fun v s1 h1 => thn h1 fun u s2 h2 => thn h2 fun c s3 ⟨x, H1, I1, r1, q1⟩ => ?_) rfl
  obtain ⟨d, rfl, q⟩ := q1
  cases r1
  exact wpAny_truthy_bool ⟨H1, I1, q⟩
theorem je_ixW (c : JC P w K mg base N sc vw k X W) {x : Str} {l : WL} {pos p2 : Pos} (hx : x ∈ vw.gs) (hm : mg x = some (.ref (He.ga K x))) (KD : ∃ es n, KDict K w (He.ga K x) es n) (hk : kdW K x l = true) (ha : JE X W a ta) (hs : PlainIx a := by exact fun _ _ => rfl) : JE X W (.Subscript (.Name x p2) a pos) (dIxW l ta) := by
  have h1 := c.kk
  have h2 := c.ww
  subst h1 h2
  obtain ⟨es, n, D⟩ := KD
  refine ⟨⟨fun pins s σ H Q I h => ?_⟩, moIxW ha.mo⟩
  refine Subscript_ (binT (pe_glob (v := .ref (He.ga X.K x)) (c.gl hx) (by rw [c.gg]; exact hm) rfl (c.sC.gl x hx).2.2) ha.pe I (R := fun y v H2 => ∃ (z : Str) (u0 : Value) (v0 : V), y = .ref (He.ga X.K x) ∧ v = .str z ∧ PySem.W.nsIn X.K (He.ga X.K x) z = some (some u0) ∧ RelV v0 u0 ∧ Q v0 H2) (show LE X.K W ta σ H _ from ?_) fun v u s2 y x' H2 I2 rx ry q => ?_)
  · obtain ⟨Z, env, S, re, rs, q⟩ := h
    refine LE.of ha.mo re rs q (fun d S1 v H1 q1 a1 r1 => ?_) fun x S1 c dx H1 q1 a1 r1 => q1 c dx H1 a1 r1
    cases d <;> first | exact q1.elim | skip
    rename_i z
    dsimp only at q1
    split at q1 <;> first | exact q1.elim | skip
    rename_i i e
    cases r1
    obtain ⟨r, e1, e2, e3⟩ := kdW_at hk z
    obtain ⟨t, rfl⟩ := e3 i e
    exact ⟨z, _, .int i, rfl, rfl, e1, ⟨t, rfl⟩, q1 _ H1 a1 (.int i)⟩
  · have q' := q
    obtain ⟨z, u0, v0, rfl, rfl, _⟩ := q'
    cases (show v = Value.ref _ from rx)
    exact tail_any (kd_type D I2) PySem.F.slot_dict_getitem.lookup (op_item_kd D pins s2 σ H2 (.ref (He.ga X.K x)) (.str z) (.ref (He.ga X.K x)) u Q I2 rfl ry q) (hs _ _)
end
end Bl

namespace K69
open PySem PySem.Spec PyProof.Rows L2 Bl
def top (i : Nat) : Stmt := PySem.Challenge.pw_bendlands_k69_texts_of_things.main.body.getD i (.Pass ⟨0, 0, 0, 0⟩)
abbrev nm_show_fraction : List Str := ["one", "top", "bottom"]
abbrev vw_show_fraction : Vw := ⟨[0, 1, 2], [0, 1, 2], [], ["str"]⟩
theorem fs_show_fraction : FnScope nm_show_fraction ["one"] (defScope (top 31)) := ⟨rfl, rfl, rfl, by decide +kernel, rfl, by decide +kernel, by decide +kernel⟩
theorem sc_show_fraction : Sc nm_show_fraction (defScope (top 31)) vw_show_fraction := scOf (by decide +kernel)
def d_show_fraction : He.DefD := ⟨("show_fraction", none), "show_fraction", "show_fraction", defArgs (top 31), defBody (top 31), defScope (top 31), [], []⟩
abbrev nm_show_place : List Str := ["place", ".0", "one"]
abbrev vw_show_place : Vw := ⟨[0], [0], [], []⟩
abbrev vb0_show_place : Vw := ⟨[1, 2], [1, 2], [], ["show_fraction", "isinstance", "tuple"]⟩
theorem fs_show_place : FnScope nm_show_place ["place"] (defScope (top 32)) := ⟨rfl, rfl, rfl, by decide +kernel, rfl, by decide +kernel, by decide +kernel⟩
theorem sc_show_place : Sc nm_show_place (defScope (top 32)) vw_show_place := scOf (by decide +kernel)
def d_show_place : He.DefD := ⟨("show_place", none), "show_place", "show_place", defArgs (top 32), defBody (top 32), defScope (top 32), [], []⟩
abbrev nm_show_thing : List Str := ["thing", "word", "points", ".0", "point"]
abbrev vw_show_thing : Vw := ⟨[0, 1, 2], [0, 1, 2], [], []⟩
abbrev vb0_show_thing : Vw := ⟨[3, 4], [3, 4], [], ["show_place"]⟩
theorem fs_show_thing : FnScope nm_show_thing ["thing"] (defScope (top 33)) := ⟨rfl, rfl, rfl, by decide +kernel, rfl, by decide +kernel, by decide +kernel⟩
theorem sc_show_thing : Sc nm_show_thing (defScope (top 33)) vw_show_thing := scOf (by decide +kernel)
def d_show_thing : He.DefD := ⟨("show_thing", none), "show_thing", "show_thing", defArgs (top 33), defBody (top 33), defScope (top 33), [], []⟩
abbrev nm_l_bag : List Str := ["_law_script", "_law_at", "_law_cell", "_law_great", "_law_primes"]
abbrev vw_l_bag : Vw := ⟨[0, 1, 2, 3, 4], [0, 1, 2, 3, 4], [], ["len", "abs"]⟩
theorem fs_l_bag : FnScope nm_l_bag ["_law_script", "_law_at"] (defScope (top 39)) := ⟨rfl, rfl, rfl, by decide +kernel, rfl, by decide +kernel, by decide +kernel⟩
theorem sc_l_bag : Sc nm_l_bag (defScope (top 39)) vw_l_bag := scOf (by decide +kernel)
def d_l_bag : He.DefD := ⟨("_law_bag", none), "_law_bag", "_law_bag", defArgs (top 39), defBody (top 39), defScope (top 39), [], []⟩
abbrev nm_l_take : List Str := ["_law_bag_here", "_law_many", "_law_digit"]
abbrev vw_l_take : Vw := ⟨[0, 1, 2], [0, 1, 2], [], []⟩
theorem fs_l_take : FnScope nm_l_take ["_law_bag_here", "_law_many"] (defScope (top 40)) := ⟨rfl, rfl, rfl, by decide +kernel, rfl, by decide +kernel, by decide +kernel⟩
theorem sc_l_take : Sc nm_l_take (defScope (top 40)) vw_l_take := scOf (by decide +kernel)
def d_l_take : He.DefD := ⟨("_law_take", none), "_law_take", "_law_take", defArgs (top 40), defBody (top 40), defScope (top 40), [], []⟩
abbrev nm_l_turned : List Str := ["_law_spot", "_law_many", "_law_x", "_law_y", "_law_turn"]
abbrev vw_l_turned : Vw := ⟨[0, 1, 2, 3, 4], [0, 1, 2, 3, 4], [], ["range"]⟩
theorem fs_l_turned : FnScope nm_l_turned ["_law_spot", "_law_many"] (defScope (top 41)) := ⟨rfl, rfl, rfl, by decide +kernel, rfl, by decide +kernel, by decide +kernel⟩
theorem sc_l_turned : Sc nm_l_turned (defScope (top 41)) vw_l_turned := scOf (by decide +kernel)
def d_l_turned : He.DefD := ⟨("_law_turned", none), "_law_turned", "_law_turned", defArgs (top 41), defBody (top 41), defScope (top 41), [], []⟩
abbrev nm_l_thing : List Str := ["_law_bag_here", "_law_wide", "_law_way", "_law_size", "_law_quarter", "_law_at", "_law_longs", "_law_arcs", "_law_some", "_law_points", "_law_spot", "_law_x", "_law_y"]
abbrev vw_l_thing : Vw := ⟨[0, 1, 2, 3, 4, 5, 6, 7, 8, 9, 10, 11, 12], [0, 1, 2, 3, 4, 5, 6, 7, 8, 9, 10, 11, 12], [], ["_law_take", "list", "_law_turned"]⟩
theorem fs_l_thing : FnScope nm_l_thing ["_law_bag_here", "_law_wide", "_law_way"] (defScope (top 42)) := ⟨rfl, rfl, rfl, by decide +kernel, rfl, by decide +kernel, by decide +kernel⟩
theorem sc_l_thing : Sc nm_l_thing (defScope (top 42)) vw_l_thing := scOf (by decide +kernel)
def d_l_thing : He.DefD := ⟨("_law_thing", none), "_law_thing", "_law_thing", defArgs (top 42), defBody (top 42), defScope (top 42), [], []⟩
abbrev nm_l_fraction_text : List Str := ["_law_one"]
abbrev vw_l_fraction_text : Vw := ⟨[0], [0], [], ["str", "int"]⟩
theorem fs_l_fraction_text : FnScope nm_l_fraction_text ["_law_one"] (defScope (top 45)) := ⟨rfl, rfl, rfl, by decide +kernel, rfl, by decide +kernel, by decide +kernel⟩
theorem sc_l_fraction_text : Sc nm_l_fraction_text (defScope (top 45)) vw_l_fraction_text := scOf (by decide +kernel)
def d_l_fraction_text : He.DefD := ⟨("_law_fraction_text", none), "_law_fraction_text", "_law_fraction_text", defArgs (top 45), defBody (top 45), defScope (top 45), [], []⟩
abbrev nm_l_place_text : List Str := ["_law_place", ".0", "_law_one"]
abbrev vw_l_place_text : Vw := ⟨[0], [0], [], []⟩
abbrev vb0_l_place_text : Vw := ⟨[1, 2], [1, 2], [], ["isinstance", "int", "str", "_law_fraction_text"]⟩
theorem fs_l_place_text : FnScope nm_l_place_text ["_law_place"] (defScope (top 46)) := ⟨rfl, rfl, rfl, by decide +kernel, rfl, by decide +kernel, by decide +kernel⟩
theorem sc_l_place_text : Sc nm_l_place_text (defScope (top 46)) vw_l_place_text := scOf (by decide +kernel)
def d_l_place_text : He.DefD := ⟨("_law_place_text", none), "_law_place_text", "_law_place_text", defArgs (top 46), defBody (top 46), defScope (top 46), [], []⟩
abbrev nm_l_thing_text : List Str := ["_law_thing_here", ".0", "_law_spot"]
abbrev vw_l_thing_text : Vw := ⟨[0], [0], [], []⟩
abbrev vb0_l_thing_text : Vw := ⟨[1, 2], [1, 2], [], ["_law_place_text"]⟩
theorem fs_l_thing_text : FnScope nm_l_thing_text ["_law_thing_here"] (defScope (top 47)) := ⟨rfl, rfl, rfl, by decide +kernel, rfl, by decide +kernel, by decide +kernel⟩
theorem sc_l_thing_text : Sc nm_l_thing_text (defScope (top 47)) vw_l_thing_text := scOf (by decide +kernel)
def d_l_thing_text : He.DefD := ⟨("_law_thing_text", none), "_law_thing_text", "_law_thing_text", defArgs (top 47), defBody (top 47), defScope (top 47), [], []⟩
abbrev nm_whole_root : List Str := ["number", "found"]
abbrev vw_whole_root : Vw := ⟨[0, 1], [0, 1], [], []⟩
theorem fs_whole_root : FnScope nm_whole_root ["number"] (defScope (top 14)) := ⟨rfl, rfl, rfl, by decide +kernel, rfl, by decide +kernel, by decide +kernel⟩
theorem sc_whole_root : Sc nm_whole_root (defScope (top 14)) vw_whole_root := scOf (by decide +kernel)
def d_whole_root : He.DefD := ⟨("whole_root", none), "whole_root", "whole_root", defArgs (top 14), defBody (top 14), defScope (top 14), [], []⟩
abbrev nm_is_square : List Str := ["number"]
abbrev vw_is_square : Vw := ⟨[0], [0], [], ["whole_root"]⟩
theorem fs_is_square : FnScope nm_is_square ["number"] (defScope (top 15)) := ⟨rfl, rfl, rfl, by decide +kernel, rfl, by decide +kernel, by decide +kernel⟩
theorem sc_is_square : Sc nm_is_square (defScope (top 15)) vw_is_square := scOf (by decide +kernel)
def d_is_square : He.DefD := ⟨("is_square", none), "is_square", "is_square", defArgs (top 15), defBody (top 15), defScope (top 15), [], []⟩
abbrev nm_is_whole : List Str := ["thing"]
abbrev vw_is_whole : Vw := ⟨[0], [0], [], ["isinstance", "int", "bool"]⟩
theorem fs_is_whole : FnScope nm_is_whole ["thing"] (defScope (top 17)) := ⟨rfl, rfl, rfl, by decide +kernel, rfl, by decide +kernel, by decide +kernel⟩
theorem sc_is_whole : Sc nm_is_whole (defScope (top 17)) vw_is_whole := scOf (by decide +kernel)
def d_is_whole : He.DefD := ⟨("is_whole", none), "is_whole", "is_whole", defArgs (top 17), defBody (top 17), defScope (top 17), [], []⟩
abbrev nm_is_row : List Str := ["thing", "many"]
abbrev vw_is_row : Vw := ⟨[0, 1], [0, 1], [], ["isinstance", "tuple", "len"]⟩
theorem fs_is_row : FnScope nm_is_row ["thing", "many"] (defScope (top 18)) := ⟨rfl, rfl, rfl, by decide +kernel, rfl, by decide +kernel, by decide +kernel⟩
theorem sc_is_row : Sc nm_is_row (defScope (top 18)) vw_is_row := scOf (by decide +kernel)
def d_is_row : He.DefD := ⟨("is_row", none), "is_row", "is_row", defArgs (top 18), defBody (top 18), defScope (top 18), [], []⟩
abbrev nm_are_whole : List Str := ["thing", "many", ".0", "one"]
abbrev vw_are_whole : Vw := ⟨[0, 1], [0, 1], [], ["is_row", "all"]⟩
abbrev vb0_are_whole : Vw := ⟨[2, 3], [2, 3], [], ["is_whole"]⟩
theorem fs_are_whole : FnScope nm_are_whole ["thing", "many"] (defScope (top 19)) := ⟨rfl, rfl, rfl, by decide +kernel, rfl, by decide +kernel, by decide +kernel⟩
theorem sc_are_whole : Sc nm_are_whole (defScope (top 19)) vw_are_whole := scOf (by decide +kernel)
def d_are_whole : He.DefD := ⟨("are_whole", none), "are_whole", "are_whole", defArgs (top 19), defBody (top 19), defScope (top 19), [], []⟩
abbrev nm_is_point : List Str := ["thing", ".0", "one"]
abbrev vw_is_point : Vw := ⟨[0], [0], [], ["are_whole", "all"]⟩
abbrev vb0_is_point : Vw := ⟨[1, 2], [1, 2], [], ["MOST"]⟩
theorem fs_is_point : FnScope nm_is_point ["thing"] (defScope (top 23)) := ⟨rfl, rfl, rfl, by decide +kernel, rfl, by decide +kernel, by decide +kernel⟩
theorem sc_is_point : Sc nm_is_point (defScope (top 23)) vw_is_point := scOf (by decide +kernel)
def d_is_point : He.DefD := ⟨("is_point", none), "is_point", "is_point", defArgs (top 23), defBody (top 23), defScope (top 23), [], []⟩
abbrev nm_far_square : List Str := ["one", "other"]
abbrev vw_far_square : Vw := ⟨[0, 1], [0, 1], [], []⟩
theorem fs_far_square : FnScope nm_far_square ["one", "other"] (defScope (top 24)) := ⟨rfl, rfl, rfl, by decide +kernel, rfl, by decide +kernel, by decide +kernel⟩
theorem sc_far_square : Sc nm_far_square (defScope (top 24)) vw_far_square := scOf (by decide +kernel)
def d_far_square : He.DefD := ⟨("far_square", none), "far_square", "far_square", defArgs (top 24), defBody (top 24), defScope (top 24), [], []⟩
abbrev nm_cross_of : List Str := ["one", "other"]
abbrev vw_cross_of : Vw := ⟨[0, 1], [0, 1], [], []⟩
theorem fs_cross_of : FnScope nm_cross_of ["one", "other"] (defScope (top 25)) := ⟨rfl, rfl, rfl, by decide +kernel, rfl, by decide +kernel, by decide +kernel⟩
theorem sc_cross_of : Sc nm_cross_of (defScope (top 25)) vw_cross_of := scOf (by decide +kernel)
def d_cross_of : He.DefD := ⟨("cross_of", none), "cross_of", "cross_of", defArgs (top 25), defBody (top 25), defScope (top 25), [], []⟩
abbrev nm_step_from : List Str := ["one", "other"]
abbrev vw_step_from : Vw := ⟨[0, 1], [0, 1], [], []⟩
theorem fs_step_from : FnScope nm_step_from ["one", "other"] (defScope (top 26)) := ⟨rfl, rfl, rfl, by decide +kernel, rfl, by decide +kernel, by decide +kernel⟩
theorem sc_step_from : Sc nm_step_from (defScope (top 26)) vw_step_from := scOf (by decide +kernel)
def d_step_from : He.DefD := ⟨("step_from", none), "step_from", "step_from", defArgs (top 26), defBody (top 26), defScope (top 26), [], []⟩
abbrev nm_is_bow : List Str := ["centre", "p", "q"]
abbrev vw_is_bow : Vw := ⟨[0, 1, 2], [0, 1, 2], [], ["far_square", "is_square", "cross_of", "step_from"]⟩
theorem fs_is_bow : FnScope nm_is_bow ["centre", "p", "q"] (defScope (top 27)) := ⟨rfl, rfl, rfl, by decide +kernel, rfl, by decide +kernel, by decide +kernel⟩
theorem sc_is_bow : Sc nm_is_bow (defScope (top 27)) vw_is_bow := scOf (by decide +kernel)
def d_is_bow : He.DefD := ⟨("is_bow", none), "is_bow", "is_bow", defArgs (top 27), defBody (top 27), defScope (top 27), [], []⟩
abbrev nm_is_thing : List Str := ["thing", "word", "points", ".0", "one"]
abbrev vw_is_thing : Vw := ⟨[0, 1, 2], [0, 1, 2], [], ["isinstance", "tuple", "len", "str", "COUNTS", "all", "is_square", "far_square", "is_bow"]⟩
abbrev vb0_is_thing : Vw := ⟨[3, 4], [3, 4], [], ["is_point"]⟩
theorem fs_is_thing : FnScope nm_is_thing ["thing"] (defScope (top 28)) := ⟨rfl, rfl, rfl, by decide +kernel, rfl, by decide +kernel, by decide +kernel⟩
theorem sc_is_thing : Sc nm_is_thing (defScope (top 28)) vw_is_thing := scOf (by decide +kernel)
def d_is_thing : He.DefD := ⟨("is_thing", none), "is_thing", "is_thing", defArgs (top 28), defBody (top 28), defScope (top 28), [], []⟩
abbrev nm_whole_in : List Str := ["word", "figures", ".0", "sign"]
abbrev vw_whole_in : Vw := ⟨[0, 1], [0, 1], [], ["all", "int"]⟩
abbrev vb0_whole_in : Vw := ⟨[2, 3], [2, 3], [], ["FIGURES"]⟩
theorem fs_whole_in : FnScope nm_whole_in ["word"] (defScope (top 34)) := ⟨rfl, rfl, rfl, by decide +kernel, rfl, by decide +kernel, by decide +kernel⟩
theorem sc_whole_in : Sc nm_whole_in (defScope (top 34)) vw_whole_in := scOf (by decide +kernel)
def d_whole_in : He.DefD := ⟨("whole_in", none), "whole_in", "whole_in", defArgs (top 34), defBody (top 34), defScope (top 34), [], []⟩
abbrev nm_point_in : List Str := ["word", "found", ".0", "part"]
abbrev vw_point_in : Vw := ⟨[0, 1], [0, 1], [], ["tuple", "len"]⟩
abbrev vb0_point_in : Vw := ⟨[2, 3], [2, 3], [], ["whole_in"]⟩
theorem fs_point_in : FnScope nm_point_in ["word"] (defScope (top 35)) := ⟨rfl, rfl, rfl, by decide +kernel, rfl, by decide +kernel, by decide +kernel⟩
theorem sc_point_in : Sc nm_point_in (defScope (top 35)) vw_point_in := scOf (by decide +kernel)
def d_point_in : He.DefD := ⟨("point_in", none), "point_in", "point_in", defArgs (top 35), defBody (top 35), defScope (top 35), [], []⟩
abbrev nm_thing_in : List Str := ["words", "word", "points", "found", ".0", "one"]
abbrev vw_thing_in : Vw := ⟨[0, 1, 2, 3], [0, 1, 2, 3], [], ["COUNTS", "len", "tuple"]⟩
abbrev vb0_thing_in : Vw := ⟨[4, 5], [4, 5], [], ["point_in"]⟩
theorem fs_thing_in : FnScope nm_thing_in ["words"] (defScope (top 36)) := ⟨rfl, rfl, rfl, by decide +kernel, rfl, by decide +kernel, by decide +kernel⟩
theorem sc_thing_in : Sc nm_thing_in (defScope (top 36)) vw_thing_in := scOf (by decide +kernel)
def d_thing_in : He.DefD := ⟨("thing_in", none), "thing_in", "thing_in", defArgs (top 36), defBody (top 36), defScope (top 36), [], []⟩
abbrev nm_read_thing : List Str := ["text", "found"]
abbrev vw_read_thing : Vw := ⟨[0, 1], [0, 1], [], ["isinstance", "str", "thing_in", "is_thing", "NoText"]⟩
theorem fs_read_thing : FnScope nm_read_thing ["text"] (defScope (top 37)) := ⟨rfl, rfl, rfl, by decide +kernel, rfl, by decide +kernel, by decide +kernel⟩
theorem sc_read_thing : Sc nm_read_thing (defScope (top 37)) vw_read_thing := scOf (by decide +kernel)
def d_read_thing : He.DefD := ⟨("read_thing", none), "read_thing", "read_thing", defArgs (top 37), defBody (top 37), defScope (top 37), [], []⟩
abbrev nm_l_read : List Str := ["_law_reader", "_law_text", "e", "_law_others"]
abbrev vw_l_read : Vw := ⟨[0, 1, 2, 3], [0, 1, 2, 3], [], ["NoText", "isinstance", "NoThing", "NoWeight", "NoRow", "NoRoot", "Full", "Hidden", "NoNumber", "NoFace", "NoSpoke", "NoFraction", "LandError", "ValueError"]⟩
theorem fs_l_read : FnScope nm_l_read ["_law_reader", "_law_text"] (defScope (top 48)) := ⟨rfl, rfl, rfl, by decide +kernel, rfl, by decide +kernel, by decide +kernel⟩
theorem sc_l_read : Sc nm_l_read (defScope (top 48)) vw_l_read := scOf (by decide +kernel)
def d_l_read : He.DefD := ⟨("_law_read", none), "_law_read", "_law_read", defArgs (top 48), defBody (top 48), defScope (top 48), [], []⟩
abbrev nm_l_bent : List Str := ["_law_bag_here", "_law_text", "_law_signs", "_law_turn", "_law_way", "_law_spot", "_law_sign", "_law_far", "_law_behind"]
abbrev vw_l_bent : Vw := ⟨[0, 1, 2, 3, 4, 5, 6, 7, 8], [0, 1, 2, 3, 4, 5, 6, 7, 8], [], ["range", "_law_take", "len", "int"]⟩
theorem fs_l_bent : FnScope nm_l_bent ["_law_bag_here", "_law_text"] (defScope (top 49)) := ⟨rfl, rfl, rfl, by decide +kernel, rfl, by decide +kernel, by decide +kernel⟩
theorem sc_l_bent : Sc nm_l_bent (defScope (top 49)) vw_l_bent := scOf (by decide +kernel)
def d_l_bent : He.DefD := ⟨("_law_bent", none), "_law_bent", "_law_bent", defArgs (top 49), defBody (top 49), defScope (top 49), [], []⟩
abbrev nm_l_whole_in : List Str := ["_law_word", "_law_figures", ".0", "_law_sign"]
abbrev vw_l_whole_in : Vw := ⟨[0, 1], [0, 1], [], ["all", "int"]⟩
abbrev vb0_l_whole_in : Vw := ⟨[2, 3], [2, 3], [], []⟩
theorem fs_l_whole_in : FnScope nm_l_whole_in ["_law_word"] (defScope (top 44)) := ⟨rfl, rfl, rfl, by decide +kernel, rfl, by decide +kernel, by decide +kernel⟩
theorem sc_l_whole_in : Sc nm_l_whole_in (defScope (top 44)) vw_l_whole_in := scOf (by decide +kernel)
def d_l_whole_in : He.DefD := ⟨("_law_whole_in", none), "_law_whole_in", "_law_whole_in", defArgs (top 44), defBody (top 44), defScope (top 44), [], []⟩
abbrev nm_l_thing_in : List Str := ["_law_text", "_law_words", "_law_found", "_law_word", "_law_spot", ".0", "_law_part"]
abbrev vw_l_thing_in : Vw := ⟨[0, 1, 2, 3, 4], [0, 1, 2, 3, 4], [], ["tuple", "len", "is_thing"]⟩
abbrev vb0_l_thing_in : Vw := ⟨[5, 6], [5, 6], [], ["_law_whole_in"]⟩
theorem fs_l_thing_in : FnScope nm_l_thing_in ["_law_text"] (defScope (top 50)) := ⟨rfl, rfl, rfl, by decide +kernel, rfl, by decide +kernel, by decide +kernel⟩
theorem sc_l_thing_in : Sc nm_l_thing_in (defScope (top 50)) vw_l_thing_in := scOf (by decide +kernel)
def d_l_thing_in : He.DefD := ⟨("_law_thing_in", none), "_law_thing_in", "_law_thing_in", defArgs (top 50), defBody (top 50), defScope (top 50), [], []⟩
abbrev nm_l_by_words : List Str := ["_law_bag_here", "_law_text", "_law_words", "_law_at", "_law_far", "_law_way", "_law_word"]
abbrev vw_l_by_words : Vw := ⟨[0, 1, 2, 3, 4, 5, 6], [0, 1, 2, 3, 4, 5, 6], [], ["_law_take", "len"]⟩
theorem fs_l_by_words : FnScope nm_l_by_words ["_law_bag_here", "_law_text"] (defScope (top 51)) := ⟨rfl, rfl, rfl, by decide +kernel, rfl, by decide +kernel, by decide +kernel⟩
theorem sc_l_by_words : Sc nm_l_by_words (defScope (top 51)) vw_l_by_words := scOf (by decide +kernel)
def d_l_by_words : He.DefD := ⟨("_law_by_words", none), "_law_by_words", "_law_by_words", defArgs (top 51), defBody (top 51), defScope (top 51), [], []⟩
abbrev nm_law : List Str := ["_law_script", "_law_k", "_law_bag_here", "_law_thing_here", "_law_text", "_law_texts", "_law_some", "_law_due", "_law_stuff", ".0", "_law_turn"]
abbrev vw_law : Vw := ⟨[0, 1, 2, 3, 4, 5, 6, 7, 8], [0, 1, 3, 5, 6, 7, 8], [2, 4], ["range", "max", "min", "len", "_law_bag", "_law_thing", "_law_take", "_law_thing_text", "show_thing", "_law_read", "read_thing", "_law_bent", "_law_thing_in"]⟩
abbrev vb0_law : Vw := ⟨[2, 4, 9, 10], [9, 10], [2, 4], ["_law_bent"]⟩
abbrev vb1_law : Vw := ⟨[2, 4, 9, 10], [9, 10], [2, 4], ["_law_by_words"]⟩
theorem fs_law : FnScope nm_law ["_law_script"] (defScope (top 52)) := ⟨rfl, rfl, rfl, by decide +kernel, rfl, by decide +kernel, by decide +kernel⟩
theorem sc_law : Sc nm_law (defScope (top 52)) vw_law := scOf (by decide +kernel)
def d_law : He.DefD := ⟨("law", none), "law", "law", defArgs (top 52), defBody (top 52), defScope (top 52), [], []⟩
def fn : List He.DefD := [d_show_fraction, d_show_place, d_show_thing, d_l_bag, d_l_take, d_l_turned, d_l_thing, d_l_fraction_text, d_l_place_text, d_l_thing_text, d_whole_root, d_is_square, d_is_whole, d_is_row, d_are_whole, d_is_point, d_far_square, d_cross_of, d_step_from, d_is_bow, d_is_thing, d_whole_in, d_point_in, d_thing_in, d_read_thing, d_l_read, d_l_bent, d_l_whole_in, d_l_thing_in, d_l_by_words, d_law]
def fa : List He.Fa := [.free "range", .free "max", .free "min", .free "len", .glo "_law_bag", .glo "_law_take", .glo "_law_thing", .glo "_law_thing_text", .glo "show_thing", .glo "read_thing", .glo "_law_read", .glo "_law_bent", .glo "_law_by_words", .glo "_law_thing_in", .glo "show_place", .free "isinstance", .free "tuple", .glo "show_fraction", .free "str", .free "abs", .free "list", .glo "_law_turned", .glo "_law_place_text", .free "int", .glo "_law_fraction_text", .glo "NoFraction", .glo "NoSpoke", .glo "NoFace", .glo "NoNumber", .glo "Hidden", .glo "Full", .glo "NoRoot", .glo "NoRow", .glo "NoWeight", .glo "NoThing", .glo "LandError", .free "ValueError", .glo "NoText", .exm "NoText" "NoText" true, .glo "thing_in", .glo "is_thing", .exc "NoText", .glo "COUNTS", .free "all", .glo "is_point", .glo "far_square", .glo "is_square", .glo "is_bow", .glo "whole_root", .glo "are_whole", .int "MOST" 1000, .glo "is_row", .glo "is_whole", .free "bool", .glo "step_from", .glo "cross_of", .glo "point_in", .glo "whole_in", .str "FIGURES" "0123456789", .glo "_law_whole_in", .glo "law"]
def ts : List He.Tab := [(fun K => He.ga K "COUNTS", ["spot", "cord", "bow"])]
def bxl : List (PySem.W.Frag → Bool) := [fun K => excCB K (He.ga K "NoText"), fun K => kitB K "NoText" ["NoThing", "NoWeight", "NoRow", "NoRoot", "Full", "Hidden", "NoNumber", "NoFace", "NoSpoke", "NoFraction"] false, fun K => kit1B K "NoText" "LandError" true, fun K => kit1B K "NoText" "ValueError" true, fun K => kdW K "COUNTS" [("spot", 1), ("cord", 2), ("bow", 3)]]
def bx : PySem.W.Frag → Bool := fun K => bxl.all fun f => f K
def names0 : List PySem.Str := ["LandError", "NoRoot", "NoThing", "NoWeight", "NoText", "NoRow", "NoFraction", "NoNumber", "NoFace", "NoSpoke", "Full", "Hidden", "whole_root", "is_square", "is_whole", "is_row", "are_whole", "MOST", "COUNTS", "is_point", "far_square", "cross_of", "step_from", "is_bow"]
def names1 : List PySem.Str := ["is_thing", "FIGURES", "show_fraction", "show_place", "show_thing", "whole_in", "point_in", "thing_in", "read_thing", "_law_bag", "_law_take", "_law_turned", "_law_thing", "_law_low", "_law_whole_in", "_law_fraction_text", "_law_place_text", "_law_thing_text", "_law_read", "_law_bent", "_law_thing_in", "_law_by_words"]
def names : List PySem.Str := names0 ++ names1
abbrev R : PySem.W.OpenRow := PySem.W.OpenLaw.row PySem.Challenge.rw_bendlands_k69_texts_of_things
end K69

namespace Lb
open PySem PySem.Spec PyProof.Rows L2 Bl
def t_whole_root : TSd := sSeq (sIf (tbl (dTwo (vr 0) (cn (.int 0)) fEq)) (sRet (cn (.int 0))) (sNx)) (sSeq (sAsg (dTwo (cn (.int 1)) (dTwo (dTwo (dBits (vr 0)) (cn (.int 1)) fAdd) (cn (.int 2)) fDiv) fShl) (.nm 1)) (sSeq (sWhile (tbl (dTwo (dTwo (vr 1) (vr 1) fMul) (vr 0) fGt)) (sAsg (dTwo (dTwo (vr 1) (dTwo (vr 0) (vr 1) fDiv) fAdd) (cn (.int 2)) fDiv) (.nm 1))) (sRet (vr 1))))
def m_whole_root : TFd := fnD 1 2 t_whole_root
def t_is_square : TSd := sRet (dTwo (dTwo (dCall m_whole_root 1 0 (fun ds _ => ds) (aCons (vr 0) (aNil)) aNil) (cn (.int 2)) fPow) (vr 0) fEq)
def m_is_square : TFd := fnD 1 1 t_is_square
end Lb

namespace Lb
open PySem PySem.Spec PyProof.Rows L2 Bl
/-! ### how great -/
def sm (n : Nat) (i : Int) : Prop := i.natAbs < 2 ^ n
theorem sm.mono {m n : Nat} {i : Int} (h : sm m i) (l : m ≤ n) : sm n i := Nat.lt_of_lt_of_le h (Nat.pow_le_pow_right (by decide) l)
theorem sm.mul {m n : Nat} {i j : Int} (a : sm m i) (b : sm n j) : sm (m + n) (i * j) := by
  unfold sm at *
  rw [Int.natAbs_mul, Nat.pow_add]
  exact Nat.mul_lt_mul'' a b
theorem sm.add {n : Nat} {i j : Int} (a : sm n i) (b : sm n j) : sm (n + 1) (i + j) := by
  unfold sm at *
  have h := Int.natAbs_add_le i j
  rw [Nat.pow_succ]
  omega
theorem sm.sub {n : Nat} {i j : Int} (a : sm n i) (b : sm n j) : sm (n + 1) (i - j) := by
  unfold sm at *
  rw [Nat.pow_succ]
  omega
theorem sm.neg {n : Nat} {i : Int} (a : sm n i) : sm n (-i) := by unfold sm at *; omega
theorem sm.of {n : Nat} {i : Int} (h : i.natAbs < 2 ^ n) : sm n i := h
theorem log2_le {n k : Nat} (h : n < 2 ^ k) : n.log2 ≤ k := by
  by_cases h0 : n = 0
  · subst h0; simp
  · exact Nat.le_of_lt ((Nat.log2_lt h0).mpr h)
theorem sm.cmul {m n : Nat} {i j : Int} (a : sm m i) (b : sm n j) (h : m + n < 1000000) : CMul' i j := by
  have h1 := log2_le a
  have h2 := log2_le b
  unfold CMul'
  omega
theorem sm.cdiv {n : Nat} {j : Int} (a : sm n j) (h0 : j ≠ 0) (h : n ≤ 9000) : CDiv' j := ⟨h0, Nat.lt_of_lt_of_le ((Nat.log2_lt (by omega)).mpr a) h⟩
theorem sm.bits {n : Nat} {j : Int} (a : sm n j) : Builtin.Int.intBits j ≤ n + 1 := by
  unfold Builtin.Int.intBits
  split
  · omega
  · have := log2_le a
    omega
/-! ### fractions -/
abbrev fr (r : Rat) : D := .tup [.int r.num, .int r.den]
structure sr (k : Nat) (r : Rat) : Prop where
  n : sm k r.num
  d : sm k r.den
theorem sr.mono {m n : Nat} {r : Rat} (h : sr m r) (l : m ≤ n) : sr n r := ⟨h.n.mono l, h.d.mono l⟩
theorem den_pos (r : Rat) : (0 : Int) < r.den := by have := r.den_pos; omega
theorem den_ne (r : Rat) : (r.den : Int) ≠ 0 := by have := r.den_pos; omega
theorem castne {q : Int} (h : q ≠ 0) : (q : Rat) ≠ 0 := fun z => h (Rat.intCast_eq_zero_iff.mp z)
/-- a fraction's parts, of any two whole numbers that make it -/
theorem low_of {p q : Int} {r : Rat} (hq : q ≠ 0) (h : r * q = p) : ∃ t : Int, t = q.sign * (Int.gcd p q) ∧ t ≠ 0 ∧ p = r.num * t ∧ q = r.den * t := by
  have e : r = Rat.divInt p q := by
    rw [Rat.divInt_eq_div, ← h, Rat.mul_div_cancel (castne hq)]
  have g0 : 0 < Int.gcd p q := Int.gcd_pos_of_ne_zero_right _ hq
  have gp : (Int.gcd p q : Int) ∣ p := Int.gcd_dvd_left ..
  have gq : (Int.gcd p q : Int) ∣ q := Int.gcd_dvd_right ..
  have ss : q.sign * q.sign = 1 := by
    rcases Int.lt_or_gt_of_ne hq with z | z
    · rw [Int.sign_eq_neg_one_of_neg z]; rfl
    · rw [Int.sign_eq_one_of_pos z]; rfl
  have sq : q.sign * q = q.natAbs := by
    rcases Int.lt_or_gt_of_ne hq with z | z
    · rw [Int.sign_eq_neg_one_of_neg z]; omega
    · rw [Int.sign_eq_one_of_pos z]; omega
  refine ⟨_, rfl, ?_, ?_, ?_⟩
  · intro z
    rcases Int.mul_eq_zero.mp z with z | z
    · rw [z] at ss; cases ss
    · omega
  · rw [e, Rat.num_divInt, Int.gcd_comm q p]
    have g1 : (Int.gcd p q : Int) ≠ 0 := by omega
    clear e sq gq
    obtain ⟨p', hp⟩ := gp
    generalize (Int.gcd p q : Int) = g at *
    have e1 : q.sign * p = g * (q.sign * p') := by rw [hp]; grind
    rw [e1, Int.mul_ediv_cancel_left _ g1, hp]
    grind
  · rw [e, Rat.den_divInt, if_neg hq, Int.gcd_comm q p, Int.natCast_ediv, ← sq]
    have g1 : (Int.gcd p q : Int) ≠ 0 := by omega
    clear e sq gp
    obtain ⟨q', hq'⟩ := gq
    generalize (Int.gcd p q : Int) = g at *
    generalize q.sign = s at *
    have e1 : s * q = g * (s * q') := by rw [hq']; grind
    rw [e1, Int.mul_ediv_cancel_left _ g1, hq']
    grind
theorem low_sm {p q : Int} {r : Rat} {n m : Nat} (hq : q ≠ 0) (h : r * q = p) (hp : sm n p) (hs : sm m q) : sm n r.num ∧ sm m r.den := by
  obtain ⟨t, _, t0, e1, e2⟩ := low_of hq h
  unfold sm at *
  have t1 : 1 ≤ t.natAbs := by omega
  constructor
  · rw [e1, Int.natAbs_mul] at hp
    exact Nat.lt_of_le_of_lt (Nat.le_mul_of_pos_right _ t1) hp
  · rw [e2, Int.natAbs_mul] at hs
    exact Nat.lt_of_le_of_lt (Nat.le_mul_of_pos_right _ t1) hs
theorem num_den (r : Rat) : r * (r.den : Int) = (r.num : Int) := by
  have h := Rat.num_divInt_den r
  rw [Rat.divInt_eq_div] at h
  have z := Rat.div_mul_cancel (a := (r.num : Rat)) (b := ((r.den : Int) : Rat)) (castne (den_ne r))
  rw [h] at z
  exact z
theorem sr.add {m n : Nat} {a b : Rat} (ha : sr m a) (hb : sr n b) : sr (m + n + 1) (a + b) := by
  have z := low_sm (p := a.num * b.den + b.num * a.den) (q := a.den * b.den) (r := a + b) (n := m + n + 1) (m := m + n) (Int.mul_ne_zero (den_ne a) (den_ne b)) (by
    have e1 := num_den a
    have e2 := num_den b
    simp only [Rat.intCast_mul, Rat.intCast_add]
    grind) (.add (ha.n.mul hb.d) ((hb.n.mul ha.d).mono (by omega))) (ha.d.mul hb.d)
  exact ⟨z.1, z.2.mono (by omega)⟩
theorem sr.neg {m : Nat} {a : Rat} (ha : sr m a) : sr m (-a) := ⟨by rw [Rat.neg_num]; exact ha.n.neg, by rw [Rat.neg_den]; exact ha.d⟩
theorem sr.mul {m n : Nat} {a b : Rat} (ha : sr m a) (hb : sr n b) : sr (m + n) (a * b) := by
  have z := low_sm (p := a.num * b.num) (q := a.den * b.den) (r := a * b) (n := m + n) (m := m + n) (Int.mul_ne_zero (den_ne a) (den_ne b)) (by
    have e1 := num_den a
    have e2 := num_den b
    simp only [Rat.intCast_mul, Rat.intCast_add]
    grind) (ha.n.mul hb.n) (ha.d.mul hb.d)
  exact ⟨z.1, z.2⟩
theorem sr.int {m : Nat} {i : Int} (h : sm m i) (h0 : 0 < m) : sr m (i : Rat) := ⟨h, by show (1 : Int).natAbs < 2 ^ m; have : 2 ^ 1 ≤ 2 ^ m := Nat.pow_le_pow_right (by decide) h0; omega⟩
theorem sr.zero {m : Nat} : sr (m + 1) 0 := ⟨by show (0 : Int).natAbs < _; exact Nat.pow_pos (by decide), by show (1 : Int).natAbs < 2 ^ (m + 1); have : 0 < 2 ^ m := Nat.pow_pos (by decide); rw [Nat.pow_succ]; omega⟩
/-! ### the greatest whole number whose square is no greater -/
def isq : Nat → Nat
  | 0 => 0
  | n + 1 => if (isq n + 1) * (isq n + 1) ≤ n + 1 then isq n + 1 else isq n
theorem isq_spec : ∀ n, isq n * isq n ≤ n ∧ n < (isq n + 1) * (isq n + 1)
  | 0 => by decide
  | n + 1 => by
    obtain ⟨h1, h2⟩ := isq_spec n
    unfold isq
    split
    · rename_i h
      refine ⟨h, ?_⟩
      have e : (isq n + 1 + 1) * (isq n + 1 + 1) = (isq n + 1) * (isq n + 1) + 2 * (isq n) + 3 := by grind
      omega
    · omega
theorem sq_lt {a b : Nat} (h : a * a < b * b) : a < b := by
  rcases Nat.lt_or_ge a b with z | z
  · exact z
  · have := Nat.mul_le_mul z z; omega
theorem isq_uniq {n k : Nat} (h1 : k * k ≤ n) (h2 : n < (k + 1) * (k + 1)) : k = isq n := by
  obtain ⟨g1, g2⟩ := isq_spec n
  have a := sq_lt (Nat.lt_of_le_of_lt h1 g2)
  have b := sq_lt (Nat.lt_of_le_of_lt g1 h2)
  omega
theorem isq_sq (k : Nat) : isq (k * k) = k := by
  refine (isq_uniq (Nat.le_refl _) ?_).symm
  have : (k + 1) * (k + 1) = k * k + 2 * k + 1 := by grind
  omega
theorem isq_le (n : Nat) : isq n ≤ n := by
  obtain ⟨g1, _⟩ := isq_spec n
  rcases Nat.eq_zero_or_pos (isq n) with z | z
  · omega
  · have := Nat.le_mul_of_pos_left (isq n) z; omega
/-- a fraction's root, if it is a fraction times itself -/
def sqb (q : Rat) : Prop := ((isq q.num.toNat : Int) * isq q.num.toNat = q.num) ∧ ((isq q.den : Int) * isq q.den = q.den)
instance (q : Rat) : Decidable (sqb q) := by unfold sqb; infer_instance
end Lb

namespace Lb
open PySem PySem.Spec PyProof.Rows L2 Bl
theorem atI_0 {α : Type} {x : α} {l : List α} : atI (x :: l) 0 = some x := by
  unfold atI ixN
  simp
theorem atI_1 {α : Type} {x y : α} {l : List α} : atI (x :: y :: l) 1 = some y := atI_nat (j := 1) rfl
theorem atI_2 {α : Type} {x y z : α} {l : List α} : atI (x :: y :: z :: l) 2 = some z := atI_nat (j := 2) rfl
section
variable {i j : Int} {a b : List D} {S : Sto} {Q : DK} {P : Bool → Sto → Prop} {r : Addr} {x : Str} {c : Bool}
theorem truD_bl : truD (.bl c) S P = P c S := rfl
theorem truD_int : truD (.int i) S P = P (i != 0) S := rfl
theorem truD_non : truD .non S P = P false S := rfl
theorem truD_tup : truD (.tup a) S P = P (!a.isEmpty) S := rfl
theorem truD_lst : truD (.lst a) S P = P (!a.isEmpty) S := rfl
theorem truD_str : truD (.str x) S P = (x.length ≤ sizeLine ∧ P ((x.length : Int) != 0) S) := rfl
theorem truD_ref : truD (.ref r) S P = match S r with | some ds => P (!ds.isEmpty) S | none => False := rfl
theorem fAdd_int : fAdd (.int i) (.int j) S Q = Q (.int (i + j)) S := rfl
theorem fAdd_tup : fAdd (.tup a) (.tup b) S Q = (a.length + b.length ≤ sizeLine ∧ Q (.tup (a ++ b)) S) := rfl
theorem fIx_tup : fIx (.tup a) (.int i) S Q = match atI a i with | some d => Q d S | none => False := rfl
theorem fIx_lst : fIx (.lst a) (.int i) S Q = match atI a i with | some d => Q d S | none => False := rfl
theorem fIx_ref : fIx (.ref r) (.int i) S Q = match S r with | some ds => (match atI ds i with | some d => Q d S | none => False) | none => False := rfl
theorem bLen_tup : bLen [.tup a] S Q = Q (.int a.length) S := rfl
theorem bLen_lst : bLen [.lst a] S Q = Q (.int a.length) S := rfl
theorem bLen_ref : bLen [.ref r] S Q = match S r with | some xs => Q (.int xs.length) S | none => False := rfl
theorem bInt_int : bInt [.int i] S Q = Q (.int i) S := rfl
theorem bInt_bl : bInt [.bl c] S Q = Q (.int (if c then 1 else 0)) S := rfl
end
theorem ix20 : ixN 2 0 = some 0 := rfl
theorem ix21 : ixN 2 1 = some 1 := rfl
/-! ### the two tellings of gcd -/
theorem sm.abs {n : Nat} {p : Int} (h : sm n p) : sm n (if p < 0 then -p else p) := by
  split
  · exact h.neg
  · exact h
abbrev pr (a b : Int) : D := .tup [.int a, .int b]
/-! ### the drawn numbers -/
def Bg (S : Sto) (a : Addr) : Prop := ∃ c m : Int, S a = some [.int c, .int m] ∧ 0 ≤ c ∧ 0 ≤ m ∧ m < 2147483648
def Fr (S S' : Sto) (a : Addr) : Prop := ∀ b, b ≠ a → S' b = S b
theorem Fr.refl (S : Sto) (a : Addr) : Fr S S a := fun _ _ => rfl
theorem Fr.trans {S S1 S2 : Sto} {a : Addr} (h : Fr S S1 a) (k : Fr S1 S2 a) : Fr S S2 a := fun b hb => (k b hb).trans (h b hb)
theorem Fr.sup {S : Sto} {a : Addr} {ds : List D} : Fr S (sup S a ds) a := fun b hb => sup_ne hb
theorem fmod_pos {a b : Int} (h : 0 < b) : 0 ≤ a.fmod b ∧ a.fmod b < b := by
  rw [Int.fmod_eq_emod_of_nonneg _ (by omega)]
  exact ⟨Int.emod_nonneg _ (by omega), Int.emod_lt_of_pos _ h⟩
theorem fdiv_nonneg {a b : Int} (h : 0 < b) (ha : 0 ≤ a) : 0 ≤ a.fdiv b := by
  rw [Int.fdiv_eq_ediv_of_nonneg _ (by omega)]
  exact Int.ediv_nonneg ha (by omega)
theorem sm_k {i : Int} (h : i.natAbs < 2 ^ 8) : sm 9000 i := sm.mono (m := 8) h (by decide)
def rabs (r : Rat) : Rat := if r.num < 0 then -r else r
theorem rabs_num (r : Rat) : (rabs r).num = if r.num < 0 then -r.num else r.num := by
  unfold rabs
  split
  · rfl
  · rfl
theorem rabs_den (r : Rat) : (rabs r).den = r.den := by
  unfold rabs
  split <;> rfl
theorem sr.abs {n : Nat} {r : Rat} (h : sr n r) : sr n (rabs r) := ⟨by rw [rabs_num]; exact h.n.abs, by rw [rabs_den]; exact h.d⟩
/-! ### roots of whole numbers -/
theorem isq_of {n f : Int} (h0 : 0 ≤ f) (h1 : f * f ≤ n) (h2 : n < (f + 1) * (f + 1)) : f = (isq n.toNat : Int) := by
  obtain ⟨m, rfl⟩ := Int.eq_ofNat_of_zero_le h0
  have hn : 0 ≤ n := Int.le_trans (Int.mul_nonneg h0 h0) h1
  obtain ⟨k, rfl⟩ := Int.eq_ofNat_of_zero_le hn
  rw [Int.toNat_natCast]
  have := isq_uniq (n := k) (k := m) (by exact_mod_cast h1) (by exact_mod_cast h2)
  omega
theorem sqi {f n : Int} (h : 0 ≤ f) : f ^ (2 : Int).toNat = f * f := by
  show f ^ 2 = f * f
  rw [Int.pow_succ, Int.pow_succ, Int.pow_zero, Int.one_mul]
theorem eq_int (i j : Int) : eqD (.int i) (.int j) = decide (i = j) := by
  show (i == j) = _
  rw [Bool.eq_iff_iff]
  simp
theorem ok_int (i : Int) : okD (.int i) := ⟨rfl, rfl⟩
theorem bits_lt (n : Int) : n.natAbs < 2 ^ Builtin.Int.intBits n := by
  unfold Builtin.Int.intBits
  split
  · rename_i h
    have : n = 0 := by simpa using h
    subst this
    decide
  · rename_i h
    have h0 : n.natAbs ≠ 0 := by
      intro z
      apply h
      have : n = 0 := by omega
      rw [this]
      rfl
    exact (Nat.log2_lt h0).mp (Nat.lt_succ_self _)
theorem whole_root_spec {n : Int} {m : Nat} {S : Sto} {Q : DK} {E : EK} (h0 : 0 ≤ n) (hs : sm m n) (hm : m ≤ 17000) (k : Q (.int (isq n.toNat)) S) : m_whole_root [.int n] S Q E := by
  unfold m_whole_root t_whole_root
  simp only [eq_int, fnD, sNx, sSeq, sRet, sRetN, sDrop, sIf, sBrk, sCnt, sAsg, sPar, sAug, sSub, setD, sThru, asgT, asgL, itemsOf, vr, cn, dTwo, tbl, ttr, truD_bl, truD_int, truD_non, truD_tup, truD_lst, truD_str, truD_ref, tAndD, tOrD, tNotD, vOf, eIf, vNot, dNeg, fAdd_int, fAdd_tup, fSub, fMul, fDiv, fMod, fPow, fShl, fLt, fLe, fGt, fGe, fEq, fNe, fIx_tup, fIx_lst, fIx_ref, aNil, aCons, dTup, dLst, dLstR, dB, bAbs, bLen_tup, bLen_lst, bLen_ref, bMax, bMin, bInt_int, bInt_bl, dBits, dCall, iVal, iR1, iR2, List.map_cons, List.map_nil, List.length_cons, List.length_nil, List.replicate, List.cons_append, List.nil_append, List.append_nil, List.set, List.getElem?_cons_zero, List.getElem?_cons_succ, List.getElem?_nil, atI_0, atI_1, atI_2, ix20, ix21, sup_same, Nat.reduceAdd, Nat.reduceSub, Nat.succ_eq_add_one, decide_eq_true_eq, Bool.not_eq_true', decide_eq_false_iff_not, true_and, and_true, Bool.true_eq_false, Bool.false_eq_true, if_true, if_false, reduceCtorEq]
  refine ⟨ok_int _, ok_int _, ?_⟩
  split
  · rename_i h
    subst h
    exact k
  · rename_i hn
    have hb := hs.bits
    have hlt := bits_lt n
    refine ⟨⟨by decide, by decide⟩, ⟨?_, ?_, by decide⟩, ?_⟩
    · exact fdiv_nonneg (by omega) (by omega)
    · rw [Int.fdiv_eq_ediv_of_nonneg _ (by omega)]
      omega
    · have e0 : ((((Builtin.Int.intBits n : Nat) : Int) + 1).fdiv 2).toNat = (Builtin.Int.intBits n + 1) / 2 := by
        rw [Int.fdiv_eq_ediv_of_nonneg _ (by omega)]
        omega
      rw [e0, Int.one_mul]
      generalize hh : (Builtin.Int.intBits n + 1) / 2 = h at *
      have hp : n < 2 ^ h * 2 ^ h := by
        have : n.natAbs < 2 ^ (h + h) := Nat.lt_of_lt_of_le hlt (Nat.pow_le_pow_right (by decide) (by omega))
        rw [Nat.pow_add] at this
        have e : n = (n.natAbs : Int) := by omega
        rw [e]
        exact_mod_cast this
      have hpp : (0 : Int) < 2 ^ h := Int.pow_pos (by decide)
      have hps : sm (m / 2 + 2) (2 ^ h) := by
        unfold sm
        rw [Int.natAbs_pow]
        exact Nat.pow_lt_pow_right (by decide) (by omega)
      have hnn : 0 < n := by omega
      clear hlt e0
      refine ⟨fun j e s => ∃ f : Int, e = [some (.int n), some (.int f)] ∧ s = S ∧ 0 < f ∧ n < (f + 1) * (f + 1) ∧ sm (m / 2 + 2) f ∧ j = f.toNat, ⟨_, 2 ^ h, rfl, rfl, hpp, ?_, hps, rfl⟩, ?_⟩
      · have : (2 ^ h + 1 : Int) * (2 ^ h + 1) = 2 ^ h * 2 ^ h + 2 * 2 ^ h + 1 := by grind
        omega
      · rintro j e s ⟨f, rfl, rfl, f0, f1, f2, rfl⟩
        simp only [fnD, sNx, sSeq, sRet, sRetN, sDrop, sIf, sBrk, sCnt, sAsg, sPar, sAug, sSub, setD, sThru, asgT, asgL, itemsOf, vr, cn, dTwo, tbl, ttr, truD_bl, truD_int, truD_non, truD_tup, truD_lst, truD_str, truD_ref, tAndD, tOrD, tNotD, vOf, eIf, vNot, dNeg, fAdd_int, fAdd_tup, fSub, fMul, fDiv, fMod, fPow, fShl, fLt, fLe, fGt, fGe, fEq, fNe, fIx_tup, fIx_lst, fIx_ref, aNil, aCons, dTup, dLst, dLstR, dB, bAbs, bLen_tup, bLen_lst, bLen_ref, bMax, bMin, bInt_int, bInt_bl, dBits, dCall, iVal, iR1, iR2, List.map_cons, List.map_nil, List.length_cons, List.length_nil, List.replicate, List.cons_append, List.nil_append, List.append_nil, List.set, List.getElem?_cons_zero, List.getElem?_cons_succ, List.getElem?_nil, atI_0, atI_1, atI_2, ix20, ix21, sup_same, Nat.reduceAdd, Nat.reduceSub, Nat.succ_eq_add_one, decide_eq_true_eq, Bool.not_eq_true', decide_eq_false_iff_not, true_and, and_true, Bool.true_eq_false, Bool.false_eq_true, if_true, if_false, reduceCtorEq]
        refine ⟨f2.cmul f2 (by omega), ?_⟩
        split
        · rename_i hc
          refine ⟨f2.cdiv (by omega) (by omega), ⟨by decide, by decide⟩, ?_⟩
          rw [Int.fdiv_eq_ediv_of_nonneg n (by omega), Int.fdiv_eq_ediv_of_nonneg _ (by omega)]
          have d1 : n / f * f ≤ n := Int.ediv_mul_le n (by omega)
          have d2 : n < (n / f + 1) * f := Int.lt_ediv_add_one_mul_self n f0
          have d0 : 0 ≤ n / f := Int.ediv_nonneg h0 (by omega)
          generalize n / f = g at *
          have d3 : g < f := by
            rcases Int.lt_or_le g f with z | z
            · exact z
            · have := Int.mul_le_mul_of_nonneg_right z (show 0 ≤ f by omega)
              omega
          obtain ⟨u, hu⟩ : ∃ u, u = (f + g) / 2 := ⟨_, rfl⟩
          rw [← hu]
          have u1 : f + g ≤ 2 * u + 1 := by omega
          have u2 : u < f := by omega
          have u3 : n < (u + 1) * (u + 1) := by
            have a1 : (f + g + 1) * f ≤ (2 * (u + 1)) * f := Int.mul_le_mul_of_nonneg_right (by omega) (by omega)
            have a2 : 0 ≤ (u + 1 - f) * (u + 1 - f) := by
              rcases Int.le_total 0 (u + 1 - f) with z | z
              · exact Int.mul_nonneg z z
              · exact Int.mul_nonneg_of_nonpos_of_nonpos z z
            have a3 : (f + g + 1) * f = f * f + (g + 1) * f := by grind
            have a4 : (u + 1) * (u + 1) = 2 * (u + 1) * f - f * f + (u + 1 - f) * (u + 1 - f) := by grind
            omega
          have u4 : 0 < u := by
            rcases Int.lt_or_le 0 u with z | z
            · exact z
            · have : u = 0 := by omega
              rw [this] at u3
              omega
          exact ⟨u.toNat, by omega, u, rfl, u4, u3, by unfold sm at *; omega, rfl⟩
        · rename_i hc
          rw [← isq_of (by omega) (by omega) f1] at k
          exact k
theorem isq_sm {n : Int} {m : Nat} (h0 : 0 ≤ n) (h : sm m n) : sm m (isq n.toNat) := by
  have := isq_le n.toNat
  unfold sm at *
  omega
theorem is_square_spec {n : Int} {m : Nat} {S : Sto} {Q : DK} {E : EK} (h0 : 0 ≤ n) (hs : sm m n) (hm : m ≤ 17000) (k : Q (.bl (decide ((isq n.toNat : Int) * isq n.toNat = n))) S) : m_is_square [.int n] S Q E := by
  unfold m_is_square t_is_square
  simp only [fnD, sNx, sSeq, sRet, sRetN, sDrop, sIf, sBrk, sCnt, sAsg, sPar, sAug, sSub, setD, sThru, asgT, asgL, itemsOf, vr, cn, dTwo, tbl, ttr, truD_bl, truD_int, truD_non, truD_tup, truD_lst, truD_str, truD_ref, tAndD, tOrD, tNotD, vOf, eIf, vNot, dNeg, fAdd_int, fAdd_tup, fSub, fMul, fDiv, fMod, fPow, fShl, fLt, fLe, fGt, fGe, fEq, fNe, fIx_tup, fIx_lst, fIx_ref, aNil, aCons, dTup, dLst, dLstR, dB, bAbs, bLen_tup, bLen_lst, bLen_ref, bMax, bMin, bInt_int, bInt_bl, dBits, dCall, iVal, iR1, iR2, List.map_cons, List.map_nil, List.length_cons, List.length_nil, List.replicate, List.cons_append, List.nil_append, List.append_nil, List.set, List.getElem?_cons_zero, List.getElem?_cons_succ, List.getElem?_nil, atI_0, atI_1, atI_2, ix20, ix21, sup_same, Nat.reduceAdd, Nat.reduceSub, Nat.succ_eq_add_one, decide_eq_true_eq, Bool.not_eq_true', decide_eq_false_iff_not, true_and, and_true, Bool.true_eq_false, Bool.false_eq_true, if_true, if_false, reduceCtorEq]
  refine whole_root_spec h0 hs hm ?_
  have z := (isq_sm h0 hs).bits
  simp only [eq_int, fnD, sNx, sSeq, sRet, sRetN, sDrop, sIf, sBrk, sCnt, sAsg, sPar, sAug, sSub, setD, sThru, asgT, asgL, itemsOf, vr, cn, dTwo, tbl, ttr, truD_bl, truD_int, truD_non, truD_tup, truD_lst, truD_str, truD_ref, tAndD, tOrD, tNotD, vOf, eIf, vNot, dNeg, fAdd_int, fAdd_tup, fSub, fMul, fDiv, fMod, fPow, fShl, fLt, fLe, fGt, fGe, fEq, fNe, fIx_tup, fIx_lst, fIx_ref, aNil, aCons, dTup, dLst, dLstR, dB, bAbs, bLen_tup, bLen_lst, bLen_ref, bMax, bMin, bInt_int, bInt_bl, dBits, dCall, iVal, iR1, iR2, List.map_cons, List.map_nil, List.length_cons, List.length_nil, List.replicate, List.cons_append, List.nil_append, List.append_nil, List.set, List.getElem?_cons_zero, List.getElem?_cons_succ, List.getElem?_nil, atI_0, atI_1, atI_2, ix20, ix21, sup_same, Nat.reduceAdd, Nat.reduceSub, Nat.succ_eq_add_one, decide_eq_true_eq, Bool.not_eq_true', decide_eq_false_iff_not, true_and, and_true, Bool.true_eq_false, Bool.false_eq_true, if_true, if_false, reduceCtorEq]
  rw [sqi (n := n) (by omega)]
  exact ⟨by decide, by omega, ok_int _, ok_int _, k⟩
end Lb

namespace Lb
open PySem PySem.Spec PyProof.Rows L2 Bl
/-! ### roots of fractions -/
structure Rt where
  b : Rat
  s : Int
  q : Rat
abbrev rt (x : Rt) : D := .tup [fr x.b, .int x.s, fr x.q]
/-! ### the program's fractions -/
theorem vr_go {i : Nat} {env : Ev} {d : D} {S : Sto} {Q : DK} {E : EK} (h : env[i]? = some (some d)) (k : Q d S) : vr i env S Q E := by
  unfold vr
  rw [h]
  exact k
/-! ### the script's cells -/
theorem forD_ints {g : Tg} {b : TSd} {N : Nd} (P : Nat → Ev → Sto → Prop) {n : Nat} {lo : Int} (turn : ∀ i env S, i < n → P i env S → ∃ e1, asgT S g (.int (lo + i)) env = some e1 ∧ ∀ N' : Nd, (∀ e s, P (i + 1) e s → N'.nx e s) → (∀ e s, P (i + 1) e s → N'.ct e s) → N'.rt = N.rt → N'.bk = N.nx → N'.ex = N.ex → b e1 S N') (fin : ∀ env S, P n env S → N.nx env S) : ∀ (m : Nat) (i : Nat) {env : Ev} {S : Sto}, i + m = n → P i env S → forD g b ((List.range' i m).map fun i : Nat => D.int (lo + i)) env S N
  | 0, i, env, S, hi, h => by
    have : i = n := by omega
    subst this
    exact fin _ _ h
  | m + 1, i, env, S, hi, h => by
    obtain ⟨e1, ea, hb⟩ := turn i env S (by omega) h
    rw [List.range'_succ, List.map_cons]
    unfold forD
    rw [ea]
    exact hb _ (fun e s q => forD_ints P turn fin m (i + 1) (by omega) q) (fun e s q => forD_ints P turn fin m (i + 1) (by omega) q) rfl rfl rfl
theorem forD_rng {g : Tg} {b : TSd} {N : Nd} (P : Nat → Ev → Sto → Prop) {n : Nat} {lo : Int} {env : Ev} {S : Sto} (h : P 0 env S)
    (turn : ∀ i env S, i < n → P i env S → ∃ e1, asgT S g (.int (lo + i)) env = some e1 ∧ ∀ N' : Nd, (∀ e s, P (i + 1) e s → N'.nx e s) → (∀ e s, P (i + 1) e s → N'.ct e s) → N'.rt = N.rt → N'.bk = N.nx → N'.ex = N.ex → b e1 S N') (fin : ∀ env S, P n env S → N.nx env S) : forD g b (rngD lo n) env S N := by
  unfold rngD
  rw [List.range_eq_range']
  exact forD_ints P turn fin n 0 (by omega) h
end Lb

namespace Lb
open PySem PySem.Spec PyProof.Rows L2 Bl
/-- in its form -/
def Cn (x : Rt) : Prop := (x.s = 0 ∧ x.q = 0) ∨ (x.s ≠ 0 ∧ x.q ≠ 0 ∧ ¬ sqb x.q)
theorem isi_int (i : Int) : isiD "int" (.int i) = some true := by
  show L2.kitB "int" "int" = some true
  decide +kernel
theorem isi_int_b (i : Int) : isiD "bool" (.int i) = some false := by
  show L2.kitB "int" "bool" = some false
  decide +kernel
theorem isi_tup (ds : List D) : isiD "tuple" (.tup ds) = some true := by
  show L2.kitB "tuple" "tuple" = some true
  decide +kernel
theorem ndT_ex {sb : Str → Option Bool} {i : Nat} {u : Addr → Str → TSd} {N : Nd} {nm : Str} {e : Ev} {S : Sto} (h : sb nm = some true) (k : ∀ a, u a nm (e.set i (some (.obj a))) S (ndS i N)) : (ndT sb i u N).ex ⟨nm, []⟩ e S := by
  show match sb nm with | some true => _ | some false => _ | none => _
  rw [h]
  exact ⟨rfl, k⟩
end Lb

/-! The steps of the transformers as rules, for a tactic that goes on as long as one rule fits. -/
namespace Go
open PySem PySem.Spec PyProof.Rows L2 Bl Lb
section
variable {env : Ev} {l : Ev} {S S1 : Sto} {Q : DK} {E : EK} {nx bk ct : Ev → Sto → Prop} {rt : DK} {ex : Xc → Ev → Sto → Prop} {t u : TSd} {ta tb te : TEd} {tt tu : TTd} {a b : D} {P : Bool → Sto → Prop}
def asgK (S : Sto) (g : Tg) (d : D) (env : Ev) (nx : Ev → Sto → Prop) : Prop := match asgT S g d env with
  | some e => nx e S
  | none => False
def parK (S : Sto) (is : List Nat) (ds : List D) (env : Ev) (nx : Ev → Sto → Prop) : Prop := match asgL S (is.map .nm) ds env with
  | some e => nx e S
  | none => False
def ifK (b : Bool) (A B : Prop) : Prop := if b = true then A else B
def tblK (d : D) (S : Sto) (Q : Bool → Sto → Prop) : Prop := match d with | .bl b => Q b S | _ => False
def seqLst (ds : List D) (S : Sto) (Q : DK) : Prop := ds.length ≤ sizeLine ∧ Q (.lst ds) S
theorem gAll {xs : List D} (k : bAll [.lst xs] S Q) : bAll [.lst xs] S Q := k
theorem gVr {i : Nat} (k : vr i env S Q E) : vr i env S Q E := k
def wipeK (vs : List Nat) (env : Ev) (k : Ev → Prop) : Prop := k (wipeD env vs)
def unsK (i : Nat) (env : Ev) (k : Ev → Prop) : Prop := k (env.set i none)
def getLL (ks : List Str) (ds : List D) (ty tx : TEd) (env : Ev) (S : Sto) (Q : DK) (E : EK) : Prop := ds.length = ks.length ∧ ty env S (fun y S2 => tx env S2 (fun z S3 => match y with
  | .str x => Q ((lookD ks ds x).getD z) S3
  | _ => False) E) E
theorem gUns {i : Nat} {k : Ev → Prop} (h : unsK i env k) : unsK i env k := h
theorem gAsg {g : Tg} (k : asgK S g a env nx) : asgK S g a env nx := k
theorem gStar {i aft : Nat} {gs : List Tg} (k : starK i aft gs a env S nx) : starK i aft gs a env S nx := k
theorem gAug {i : Nat} {f : F2} (k : sAug i te f env S ⟨nx, rt, bk, ct, ex⟩) : sAug i te f env S ⟨nx, rt, bk, ct, ex⟩ := k
theorem gIxT {ds : List D} (k : fIx (.tup ds) b S Q) : fIx (.tup ds) b S Q := k
theorem gIxL {ds : List D} (k : fIx (.lst ds) b S Q) : fIx (.lst ds) b S Q := k
def isiK (T : String) (d : D) (S : Sto) (Q : DK) : Prop := match isiD T d with | some b => Q (.bl b) S | none => False
def enumK (d : D) (S : Sto) (Q : List D → Sto → Prop) : Prop := match seqD d with | some ds => Q (enumD ds) S | none => False
def revK (d : D) (S : Sto) (Q : List D → Sto → Prop) : Prop := match seqD d with | some ds => Q ds.reverse S | none => False
theorem revT {ds : List D} {Q : List D → Sto → Prop} (k : Q ds.reverse S) : revK (.tup ds) S Q := k
theorem revL {ds : List D} {Q : List D → Sto → Prop} (k : Q ds.reverse S) : revK (.lst ds) S Q := k
theorem zipT {ds es : List D} {Q : List D → Sto → Prop} (k : Q (zipD ds es) S) : zipK (.tup ds) (.tup es) S Q := k
theorem zipL {ds es : List D} {Q : List D → Sto → Prop} (k : Q (zipD ds es) S) : zipK (.lst ds) (.lst es) S Q := k
def iValK (d : D) (S : Sto) (Q : List D → Sto → Prop) : Prop := match d with | .tup ds => Q ds S | .lst ds => Q ds S | _ => False
theorem iValT {ds : List D} {Q : List D → Sto → Prop} (k : Q ds S) : iValK (.tup ds) S Q := k
theorem iValL {ds : List D} {Q : List D → Sto → Prop} (k : Q ds S) : iValK (.lst ds) S Q := k
theorem isiK' {T : String} {b : Bool} (h : isiD T a = some b) (k : Q (.bl b) S) : isiK T a S Q := by
  unfold isiK
  rw [h]
  exact k
theorem nx' (k : nx env S) : sNx env S ⟨nx, rt, bk, ct, ex⟩ := k
theorem seq (k : t env S ⟨fun e S1 => u e S1 ⟨nx, rt, bk, ct, ex⟩, rt, bk, ct, ex⟩) : sSeq t u env S ⟨nx, rt, bk, ct, ex⟩ := k
theorem ret (k : te env S rt fun x S1 => ex x env S1) : sRet te env S ⟨nx, rt, bk, ct, ex⟩ := k
theorem retN (k : rt .non S) : sRetN env S ⟨nx, rt, bk, ct, ex⟩ := k
theorem drop (k : te env S (fun _ S1 => nx env S1) fun x S1 => ex x env S1) : sDrop te env S ⟨nx, rt, bk, ct, ex⟩ := k
theorem brk (k : bk env S) : sBrk env S ⟨nx, rt, bk, ct, ex⟩ := k
theorem cnt (k : ct env S) : sCnt env S ⟨nx, rt, bk, ct, ex⟩ := k
theorem if' (k : tt env S (fun b S1 => ifK b (t env S1 ⟨nx, rt, bk, ct, ex⟩) (u env S1 ⟨nx, rt, bk, ct, ex⟩)) fun x S1 => ex x env S1) : sIf tt t u env S ⟨nx, rt, bk, ct, ex⟩ := k
theorem asg {g : Tg} (k : te env S (fun d S1 => asgK S1 g d env nx) fun x S1 => ex x env S1) : sAsg te g env S ⟨nx, rt, bk, ct, ex⟩ := k
theorem par {is : List Nat} {t : TAd} (k : t env S (fun ds S1 => parK S1 is ds env nx) fun x S1 => ex x env S1) : sPar is t env S ⟨nx, rt, bk, ct, ex⟩ := k
theorem raise {x : Str} (k : ex ⟨x, []⟩ env S) : sRaise x env S ⟨nx, rt, bk, ct, ex⟩ := k
theorem thru (k : t env S ⟨fun e s => u e s ⟨nx, rt, bk, ct, ex⟩, rt, bk, ct, fun _ _ _ => False⟩) : sThru t u env S ⟨nx, rt, bk, ct, ex⟩ := k
theorem tryAs {sb : Str → Option Bool} {i : Nat} {v : Addr → Str → TSd} (k : t env S (ndT sb i v ⟨nx, rt, bk, ct, ex⟩)) : sTryAs t sb i v env S ⟨nx, rt, bk, ct, ex⟩ := k
theorem for' {ti : TAd} {g : Tg} (k : ti env S (fun ds S1 => forD g t ds env S1 ⟨nx, rt, bk, ct, ex⟩) fun x S1 => ex x env S1) : sFor ti g t env S ⟨nx, rt, bk, ct, ex⟩ := k
theorem sub {to ti : TEd} (k : te env S (fun v S1 => to env S1 (fun o S2 => ti env S2 (fun i S3 => setD o i v S3 fun S4 => nx env S4) fun x S3 => ex x env S3) fun x S2 => ex x env S2) fun x S1 => ex x env S1) : sSub te to ti env S ⟨nx, rt, bk, ct, ex⟩ := k
/-! targets -/
theorem tp_cons {g : Tg} {ts : List Tg} {d : D} {ds : List D} (k : asgK S g d env fun e S => asgK S (.tp ts) (.tup ds) e nx) : asgK S (.tp (g :: ts)) (.tup (d :: ds)) env nx := by
  unfold asgK at *
  show match (match asgT S g d env with | some e => asgL S ts ds e | none => none) with | some e => nx e S | none => False
  cases h : asgT S g d env with
  | none => rw [h] at k; exact k.elim
  | some e => rw [h] at k; exact k
theorem tp_nil (k : nx env S) : asgK S (.tp []) (.tup []) env nx := k
theorem par_cons {i : Nat} {is : List Nat} {d : D} {ds : List D} (k : asgK S (.nm i) d env fun e S => parK S is ds e nx) : parK S (i :: is) (d :: ds) env nx := k
theorem par_nil (k : nx env S) : parK S [] [] env nx := k
/-! expressions -/
theorem cn' (k : Q a S) : Bl.cn a env S Q E := k
theorem two {f : F2} (k : ta env S (fun x S1 => tb env S1 (fun y S2 => f x y S2 Q) E) E) : dTwo ta tb f env S Q E := k
theorem nil {Q : List D → Sto → Prop} (k : Q [] S) : aNil env S Q E := k
theorem cons {t : TEd} {u : TAd} {Q : List D → Sto → Prop} (k : t env S (fun d S1 => u env S1 (fun ds S2 => Q (d :: ds) S2) E) E) : aCons t u env S Q E := k
def tupK (ds : List D) (S : Sto) (Q : DK) : Prop := ds.length ≤ sizeLine ∧ Q (.tup ds) S
def lstRK (ds : List D) (S : Sto) (Q : DK) : Prop := ds.length ≤ sizeLine ∧ ∀ a, S a = none → Q (.ref a) (sup S a ds)
theorem tup {t : TAd} (k : t env S (fun ds S1 => tupK ds S1 Q) E) : dTup t env S Q E := k
theorem lst {t : TAd} (k : t env S (fun ds S1 => seqLst ds S1 Q) E) : dLst t env S Q E := k
theorem lstR {t : TAd} (k : t env S (fun ds S1 => lstRK ds S1 Q) E) : dLstR t env S Q E := k
theorem tupK' {ds : List D} (h : Nat.ble ds.length 100 = true) (k : Q (.tup ds) S) : tupK ds S Q := ⟨Nat.le_trans (Nat.le_of_ble_eq_true h) (by decide), k⟩
theorem lstK' {ds : List D} (h : Nat.ble ds.length 100 = true) (k : Q (.lst ds) S) : seqLst ds S Q := ⟨Nat.le_trans (Nat.le_of_ble_eq_true h) (by decide), k⟩
theorem lstRK' {ds : List D} (h : Nat.ble ds.length 100 = true) (k : ∀ a, S a = none → Q (.ref a) (sup S a ds)) : lstRK ds S Q := ⟨Nat.le_trans (Nat.le_of_ble_eq_true h) (by decide), k⟩
theorem tbl' {P : Bool → Sto → Prop} (k : te env S (fun d S' => tblK d S' P) E) : tbl te env S P E := k
theorem tblK' {c : Bool} (k : P c S) : tblK (.bl c) S P := k
theorem ttr' (k : te env S (fun d S' => truD d S' P) E) : ttr te env S P E := k
theorem truB {c : Bool} (k : P c S) : truD (.bl c) S P := k
theorem truI {i : Int} (k : P (i != 0) S) : truD (.int i) S P := k
theorem truN (k : P false S) : truD .non S P := k
theorem and' (k : tt env S (fun c S1 => ifK c (tu env S1 P E) (P false S1)) E) : tAndD tt tu env S P E := k
theorem or' (k : tt env S (fun c S1 => ifK c (P true S1) (tu env S1 P E)) E) : tOrD tt tu env S P E := k
theorem not' (k : tt env S (fun c S1 => P (!c) S1) E) : tNotD tt env S P E := k
theorem vOf' (k : tt env S (fun c S1 => Q (.bl c) S1) E) : vOf tt env S Q E := k
theorem vNot' (k : ta env S (fun d S' => tblK d S' fun c S1 => Q (.bl (!c)) S1) E) : vNot ta env S Q E := k
theorem eIf' (k : tt env S (fun c S1 => ifK c (ta env S1 Q E) (tb env S1 Q E)) E) : eIf tt ta tb env S Q E := k
theorem ifT {A B : Prop} (k : A) : ifK true A B := k
theorem ifF {A B : Prop} (k : B) : ifK false A B := k
theorem ifN {A B : Prop} {c : Bool} (k : ifK c B A) : ifK (!c) A B := by cases c <;> exact k
theorem ifD {A B p : Prop} [Decidable p] (h : p → A) (k : ¬ p → B) : ifK (decide p) A B := by
  unfold ifK
  by_cases c : p
  · rw [if_pos (decide_eq_true c)]; exact h c
  · rw [if_neg (by simpa using c)]; exact k c
theorem ifDT {A B p : Prop} [Decidable p] (h : p) (k : A) : ifK (decide p) A B := ifD (fun _ => k) fun z => absurd h z
theorem ifDF {A B p : Prop} [Decidable p] (h : ¬ p) (k : B) : ifK (decide p) A B := ifD (fun z => absurd z h) fun _ => k
theorem ifB {A B : Prop} {c : Bool} (h : c = true → A) (k : c = false → B) : ifK c A B := by
  cases c
  · exact k rfl
  · exact h rfl
theorem ifBT {A B : Prop} {c : Bool} (h : c = true) (k : A) : ifK c A B := by subst h; exact k
theorem ifBF {A B : Prop} {c : Bool} (h : c = false) (k : B) : ifK c A B := by subst h; exact k
/-! operators -/
variable {i j : Int}
theorem add (k : Q (.int (i + j)) S) : fAdd (.int i) (.int j) S Q := k
theorem addT {ds es : List D} (h : Nat.ble (ds ++ es).length 1000 = true) (k : Q (.tup (ds ++ es)) S) : fAdd (.tup ds) (.tup es) S Q := ⟨by have := Nat.le_of_ble_eq_true h; rw [List.length_append] at this; exact Nat.le_trans this (by decide), k⟩
theorem sub' (k : Q (.int (i - j)) S) : fSub (.int i) (.int j) S Q := k
theorem mul (h : CMul' i j) (k : Q (.int (i * j)) S) : fMul (.int i) (.int j) S Q := ⟨h, k⟩
theorem mod (h : j ≠ 0) (k : Q (.int (i.fmod j)) S) : fMod (.int i) (.int j) S Q := ⟨h, k⟩
theorem lt (k : Q (.bl (decide (i < j))) S) : fLt (.int i) (.int j) S Q := k
theorem le (k : Q (.bl (decide (i ≤ j))) S) : fLe (.int i) (.int j) S Q := k
theorem gt (k : Q (.bl (decide (j < i))) S) : fGt (.int i) (.int j) S Q := k
theorem ge (k : Q (.bl (decide (j ≤ i))) S) : fGe (.int i) (.int j) S Q := k
theorem eqI (k : Q (.bl (decide (i = j))) S) : fEq (.int i) (.int j) S Q := ⟨ok_int _, ok_int _, by rw [Lb.eq_int]; exact k⟩
theorem neI (k : Q (.bl (!decide (i = j))) S) : fNe (.int i) (.int j) S Q := ⟨ok_int _, ok_int _, by rw [Lb.eq_int]; exact k⟩
def negK (d : D) (S : Sto) (Q : DK) : Prop := match d with | .int i => Q (.int (-i)) S | _ => False
theorem neg (k : ta env S (fun d S' => negK d S' Q) E) : dNeg ta env S Q E := k
theorem neg' (k : Q (.int (-i)) S) : negK (.int i) S Q := k
theorem pow2 {n : Nat} (h : sm n i) (hn : n ≤ 1000000) (k : Q (.int (i * i)) S) : fPow (.int i) (.int 2) S Q := by
  have := h.bits
  refine ⟨by decide, by omega, ?_⟩
  have e : i ^ (2 : Int).toNat = i * i := by
    show i ^ 2 = i * i
    rw [Int.pow_succ, Int.pow_succ, Int.pow_zero, Int.one_mul]
  rw [e]
  exact k
theorem is' (k : Q (.bl (isN a)) S) : fIs a .non S Q := k
theorem isNot' (k : Q (.bl (!isN a)) S) : fIsNot a .non S Q := k
theorem chain {tc : TEd} {f g : F2} (k : ta env S (fun x S1 => tb env S1 (fun y S2 => f x y S2 (fun d S3 => match d with
  | .bl true => tc env S3 (fun z S4 => g y z S4 Q) E
  | .bl false => Q (.bl false) S3
  | _ => False)) E) E) : dChain ta tb tc f g env S Q E := k
theorem dB' {g : GB} {t : TAd} (k : t env S (fun ds S1 => g ds S1 Q) E) : dB g t env S Q E := k
theorem abs' (k : Q (.int (if i < 0 then -i else i)) S) : bAbs [.int i] S Q := k
theorem lenT {ds : List D} (k : Q (.int ds.length) S) : bLen [.tup ds] S Q := k
theorem lenL {ds : List D} (k : Q (.int ds.length) S) : bLen [.lst ds] S Q := k
theorem lenR {r : Addr} {ds : List D} (h : S r = some ds) (k : Q (.int ds.length) S) : bLen [.ref r] S Q := by
  unfold bLen
  dsimp only
  rw [h]
  exact k
theorem max' (k : Q (.int (if j > i then j else i)) S) : bMax [.int i, .int j] S Q := k
theorem min' (k : Q (.int (if j < i then j else i)) S) : bMin [.int i, .int j] S Q := k
theorem intI (k : Q (.int i) S) : bInt [.int i] S Q := k
theorem intB {c : Bool} (k : Q (.int (if c then 1 else 0)) S) : bInt [.bl c] S Q := k
theorem tupL {ds : List D} (k : Q (.tup ds) S) : bTup [.lst ds] S Q := k
theorem tupT {ds : List D} (k : Q (.tup ds) S) : bTup [.tup ds] S Q := k
theorem isi {T : String} (k : ta env S (fun d S1 => isiK T d S1 Q) E) : dIsi T ta env S Q E := k
def callK (m : TFd) (np nk : Nat) (ds zs : List D) (gs : List D) (S : Sto) (Q : DK) (E : EK) : Prop := ds.length = np ∧ zs.length = nk ∧ m gs S Q E
theorem call {m : TFd} {np nk : Nat} {gD : List D → List D → List D} {tk : TAd} {t : TAd} (k : t env S (fun ds S1 => tk env S1 (fun zs S2 => callK m np nk ds zs (gD ds zs) S2 Q E) E) E) : dCall m np nk gD t tk env S Q E := k
theorem callK' {m : TFd} {np nk : Nat} {ds zs gs : List D} (h : ds.length = np) (h2 : zs.length = nk) (k : m gs S Q E) : callK m np nk ds zs gs S Q E := ⟨h, h2, k⟩
/-! items -/
theorem ixT {ds : List D} {i : Int} {d : D} (h : atI ds i = some d) (k : Q d S) : fIx (.tup ds) (.int i) S Q := by
  unfold fIx
  dsimp only
  rw [h]
  exact k
theorem ixL {ds : List D} {i : Int} {d : D} (h : atI ds i = some d) (k : Q d S) : fIx (.lst ds) (.int i) S Q := by
  unfold fIx
  dsimp only
  rw [h]
  exact k
theorem ixR {r : Addr} {ds : List D} {i : Int} {d : D} (e : S r = some ds) (h : atI ds i = some d) (k : Q d S) : fIx (.ref r) (.int i) S Q := by
  unfold fIx
  dsimp only
  rw [e]
  dsimp only
  rw [h]
  exact k
def r1K (ds : List D) (S : Sto) (Q : List D → Sto → Prop) : Prop := match ds with
  | [.int j] => -(2 ^ 62) ≤ j ∧ j < 2 ^ 62 ∧ Q (rngD 0 j.toNat) S
  | _ => False
def r2K (ds : List D) (S : Sto) (Q : List D → Sto → Prop) : Prop := match ds with
  | [.int i, .int j] => (-(2 ^ 62) ≤ i ∧ i < 2 ^ 62 ∧ -(2 ^ 62) ≤ j ∧ j < 2 ^ 62) ∧ Q (rngD i (j - i).toNat) S
  | _ => False
theorem star {te : TEd} {i aft : Nat} {gs : List Tg} (k : te env S (fun d S1 => starK i aft gs d env S1 nx) fun x S1 => ex x env S1) : sStar te i aft gs env S ⟨nx, rt, bk, ct, ex⟩ := k
def asgLK (S : Sto) (gs : List Tg) (ds : List D) (env : Ev) (nx : Ev → Sto → Prop) : Prop := match asgL S gs ds env with
  | some e => nx e S
  | none => False
theorem l_cons {g : Tg} {ts : List Tg} {d : D} {ds : List D} (k : asgK S g d env fun e S => asgLK S ts ds e nx) : asgLK S (g :: ts) (d :: ds) env nx := by
  unfold asgK at k
  unfold asgLK at *
  show match (match asgT S g d env with | some e => asgL S ts ds e | none => none) with | some e => nx e S | none => False
  cases h : asgT S g d env with
  | none => rw [h] at k; exact k.elim
  | some e => rw [h] at k; exact k
theorem l_nil (k : nx env S) : asgLK S [] [] env nx := k
theorem starG {i aft : Nat} {gs : List Tg} {d : D} {ds es : List D} (h : itemsOf S d = some ds) (hl : i + aft ≤ ds.length) (e : starD i aft ds = es) (k : asgLK S gs es env nx) : starK i aft gs d env S nx := by
  unfold starK
  rw [h]
  refine ⟨hl, ?_⟩
  rw [e]
  exact k
theorem enum' {Q : List D → Sto → Prop} (k : te env S (fun d S1 => enumK d S1 Q) E) : iEnumD te env S Q E := k
theorem rev' {Q : List D → Sto → Prop} (k : te env S (fun d S1 => revK d S1 Q) E) : iRevD te env S Q E := k
theorem zip' {t u : TEd} {Q : List D → Sto → Prop} (k : t env S (fun x S1 => u env S1 (fun y S2 => zipK x y S2 Q) E) E) : iZipD t u env S Q E := k
theorem eqS {x y : Str} {b : Bool} (h : okD (.str x)) (h2 : okD (.str y)) (e : eqD (.str x) (.str y) = b) (k : Q (.bl b) S) : fEq (.str x) (.str y) S Q := ⟨h, h2, by rw [e]; exact k⟩
theorem neS {x y : Str} {b : Bool} (h : okD (.str x)) (h2 : okD (.str y)) (e : (!eqD (.str x) (.str y)) = b) (k : Q (.bl b) S) : fNe (.str x) (.str y) S Q := ⟨h, h2, by rw [e]; exact k⟩
theorem gEqS {x y : Str} (k : fEq (.str x) (.str y) S Q) : fEq (.str x) (.str y) S Q := k
theorem gNeS {x y : Str} (k : fNe (.str x) (.str y) S Q) : fNe (.str x) (.str y) S Q := k
theorem wipe_nil {k : Ev → Prop} (h : k env) : wipeK [] env k := h
theorem wipe_cons {v : Nat} {vs : List Nat} {k : Ev → Prop} (h : wipeK vs env fun e => unsK v e k) : wipeK (v :: vs) env k := h
def lcK (g : Tg) (tt : TTd) (te : TEd) (vs : List Nat) (env : Ev) (ds : List D) (S : Sto) (Q : List D → Sto → Prop) : Prop := ds.length < sizeLine ∧ lcGo g tt te (wipeD env vs) ds S Q
theorem lc {ti : TAd} {g : Tg} {vs : List Nat} (k : ti env S (fun ds S1 => lcK g tt te vs env ds S1 fun ys S2 => Q (.lst ys) S2) E) : dLc ti g tt te vs env S Q E := k
theorem lcR {ti : TAd} {g : Tg} {vs : List Nat} (k : ti env S (fun ds S1 => lcK g tt te vs env ds S1 fun ys S2 => ∀ a, S2 a = none → Q (.ref a) (sup S2 a ys)) E) : dLcR ti g tt te vs env S Q E := k
theorem lc' {g : Tg} {vs : List Nat} {ds : List D} {Q : List D → Sto → Prop} (h : ds.length < sizeLine) (k : wipeK vs env fun e => lcGo g tt te e ds S Q) : lcK g tt te vs env ds S Q := ⟨h, k⟩
theorem lcL {g : Tg} {vs : List Nat} {ds : List D} {Q : List D → Sto → Prop} (h : Nat.ble ds.length 1000 = true) (k : wipeK vs env fun e => lcGo g tt te e ds S Q) : lcK g tt te vs env ds S Q := ⟨Nat.lt_of_le_of_lt (Nat.le_of_ble_eq_true h) (by decide), k⟩
theorem lg_nil {g : Tg} {Q : List D → Sto → Prop} (k : Q [] S) : lcGo g tt te env [] S Q := k
theorem lg_cons {g : Tg} {d : D} {ds : List D} {Q : List D → Sto → Prop} (k : asgK S g d env fun e1 S1 => tt e1 S1 (fun b S2 => ifK b (te e1 S2 (fun y S3 => lcGo g tt te env ds S3 fun ys S4 => Q (y :: ys) S4) EF) (lcGo g tt te env ds S2 Q)) EF) : lcGo g tt te env (d :: ds) S Q := by
  unfold asgK at k
  unfold lcGo
  exact k
theorem yes {P : Bool → Sto → Prop} (k : P true S) : tYesD env S P E := k
theorem for_nil {g : Tg} (k : nx env S) : forD g t [] env S ⟨nx, rt, bk, ct, ex⟩ := k
theorem for_cons {g : Tg} {d : D} {ds : List D} (k : asgK S g d env fun e1 S1 => t e1 S1 ⟨fun e s => forD g t ds e s ⟨nx, rt, bk, ct, ex⟩, rt, nx, fun e s => forD g t ds e s ⟨nx, rt, bk, ct, ex⟩, ex⟩) : forD g t (d :: ds) env S ⟨nx, rt, bk, ct, ex⟩ := by
  unfold asgK at k
  unfold forD
  exact k
theorem allB {xs : List D} {bs : List Bool} (h : blsOf xs = some bs) (k : Q (.bl (bs.all id)) S) : bAll [.lst xs] S Q := by
  unfold bAll
  dsimp only
  rw [h]
  exact k
theorem sl {t : TEd} {lo hi : TOd} (k : t env S (fun x S1 => lo env S1 (fun l S2 => hi env S2 (fun u S3 => fSl x l u S3 Q) E) E) E) : dSl t lo hi env S Q E := k
theorem oN {Q : Option Int → Sto → Prop} (k : Q none S) : oNone env S Q E := k
def osK (d : D) (S : Sto) (Q : Option Int → Sto → Prop) : Prop := match d with | .int i => Q (some i) S | _ => False
theorem oS {t : TEd} {Q : Option Int → Sto → Prop} (k : t env S (fun d S1 => osK d S1 Q) E) : oSome t env S Q E := k
theorem osK' {Q : Option Int → Sto → Prop} (k : Q (some i) S) : osK (.int i) S Q := k
theorem slT {ds es : List D} {lo hi : Option Int} (e : Bl.cutD ds lo hi = es) (k : Q (.tup es) S) : fSl (.tup ds) lo hi S Q := by subst e; exact k
theorem slL {ds es : List D} {lo hi : Option Int} (e : Bl.cutD ds lo hi = es) (k : Q (.lst es) S) : fSl (.lst ds) lo hi S Q := by subst e; exact k
def getLK (ks : List Str) (ds : List D) (y z : D) (S : Sto) (Q : DK) : Prop := match y with
  | .str x => Q ((lookD ks ds x).getD z) S
  | _ => False
theorem getL {ks : List Str} {ta : TAd} {ty tx : TEd} (k : ta env S (fun ds S1 => getLL ks ds ty tx env S1 Q E) E) : dGetL ks ta ty tx env S Q E := k
theorem getLL' {ks : List Str} {ds : List D} {ty tx : TEd} (h : ds.length = ks.length) (k : ty env S (fun y S2 => tx env S2 (fun z S3 => getLK ks ds y z S3 Q) E) E) : getLL ks ds ty tx env S Q E := ⟨h, k⟩
theorem iadd {i j : Int} (k : Q (.int (i + j)) S) : fIadd (.int i) (.int j) S Q := k
theorem r1 {t : TAd} {Q : List D → Sto → Prop} (k : t env S (fun ds S1 => r1K ds S1 Q) E) : iR1 t env S Q E := k
theorem r1' {j : Int} {n : Nat} {Q : List D → Sto → Prop} (e : j = n) (h : n < 2 ^ 60) (k : Q (rngD 0 n) S) : r1K [.int j] S Q := by
  subst e
  exact ⟨by omega, by omega, by rw [Int.toNat_natCast]; exact k⟩
theorem r2 {t : TAd} {Q : List D → Sto → Prop} (k : t env S (fun ds S1 => r2K ds S1 Q) E) : iR2 t env S Q E := k
theorem cells {α : Type} {c : Int} {xs : List α} (h : 0 ≤ c) : 1 + (if ((xs.length : Nat) : Int) < c then ((xs.length : Nat) : Int) else c) = ((1 + min c.toNat xs.length : Nat) : Int) := by
  split <;> omega
theorem iVal' {Q : List D → Sto → Prop} (k : te env S (fun d S1 => iValK d S1 Q) E) : iVal te env S Q E := k
end
theorem vr0 {l : Ev} {d : D} {S : Sto} {Q : DK} {E : EK} (k : Q d S) : vr 0 (some d :: l) S Q E := k
theorem set0 {y : Option D} {l : Ev} {d : D} {S : Sto} {nx : Ev → Sto → Prop} (k : nx (some d :: l) S) : asgK S (.nm 0) d (y :: l) nx := k
theorem uns0 {y : Option D} {l : Ev} {k : Ev → Prop} (h : k (none :: l)) : unsK 0 (y :: l) k := h
theorem aug0 {l : Ev} {d : D} {S : Sto} {te : TEd} {f : F2} {nx bk ct : Ev → Sto → Prop} {rt : DK} {ex : Xc → Ev → Sto → Prop} (k : te (some d :: l) S (fun y S1 => f d y S1 fun z S2 => nx (some z :: l) S2) fun x S1 => ex x (some d :: l) S1) : sAug 0 te f (some d :: l) S ⟨nx, rt, bk, ct, ex⟩ := k
theorem vr1 {x0 : Option D} {l : Ev} {d : D} {S : Sto} {Q : DK} {E : EK} (k : Q d S) : vr 1 (x0 :: some d :: l) S Q E := k
theorem set1 {x0 : Option D} {y : Option D} {l : Ev} {d : D} {S : Sto} {nx : Ev → Sto → Prop} (k : nx (x0 :: some d :: l) S) : asgK S (.nm 1) d (x0 :: y :: l) nx := k
theorem uns1 {x0 : Option D} {y : Option D} {l : Ev} {k : Ev → Prop} (h : k (x0 :: none :: l)) : unsK 1 (x0 :: y :: l) k := h
theorem aug1 {x0 : Option D} {l : Ev} {d : D} {S : Sto} {te : TEd} {f : F2} {nx bk ct : Ev → Sto → Prop} {rt : DK} {ex : Xc → Ev → Sto → Prop} (k : te (x0 :: some d :: l) S (fun y S1 => f d y S1 fun z S2 => nx (x0 :: some z :: l) S2) fun x S1 => ex x (x0 :: some d :: l) S1) : sAug 1 te f (x0 :: some d :: l) S ⟨nx, rt, bk, ct, ex⟩ := k
theorem vr2 {x0 x1 : Option D} {l : Ev} {d : D} {S : Sto} {Q : DK} {E : EK} (k : Q d S) : vr 2 (x0 :: x1 :: some d :: l) S Q E := k
theorem set2 {x0 x1 : Option D} {y : Option D} {l : Ev} {d : D} {S : Sto} {nx : Ev → Sto → Prop} (k : nx (x0 :: x1 :: some d :: l) S) : asgK S (.nm 2) d (x0 :: x1 :: y :: l) nx := k
theorem uns2 {x0 x1 : Option D} {y : Option D} {l : Ev} {k : Ev → Prop} (h : k (x0 :: x1 :: none :: l)) : unsK 2 (x0 :: x1 :: y :: l) k := h
theorem aug2 {x0 x1 : Option D} {l : Ev} {d : D} {S : Sto} {te : TEd} {f : F2} {nx bk ct : Ev → Sto → Prop} {rt : DK} {ex : Xc → Ev → Sto → Prop} (k : te (x0 :: x1 :: some d :: l) S (fun y S1 => f d y S1 fun z S2 => nx (x0 :: x1 :: some z :: l) S2) fun x S1 => ex x (x0 :: x1 :: some d :: l) S1) : sAug 2 te f (x0 :: x1 :: some d :: l) S ⟨nx, rt, bk, ct, ex⟩ := k
theorem vr3 {x0 x1 x2 : Option D} {l : Ev} {d : D} {S : Sto} {Q : DK} {E : EK} (k : Q d S) : vr 3 (x0 :: x1 :: x2 :: some d :: l) S Q E := k
theorem set3 {x0 x1 x2 : Option D} {y : Option D} {l : Ev} {d : D} {S : Sto} {nx : Ev → Sto → Prop} (k : nx (x0 :: x1 :: x2 :: some d :: l) S) : asgK S (.nm 3) d (x0 :: x1 :: x2 :: y :: l) nx := k
theorem uns3 {x0 x1 x2 : Option D} {y : Option D} {l : Ev} {k : Ev → Prop} (h : k (x0 :: x1 :: x2 :: none :: l)) : unsK 3 (x0 :: x1 :: x2 :: y :: l) k := h
theorem aug3 {x0 x1 x2 : Option D} {l : Ev} {d : D} {S : Sto} {te : TEd} {f : F2} {nx bk ct : Ev → Sto → Prop} {rt : DK} {ex : Xc → Ev → Sto → Prop} (k : te (x0 :: x1 :: x2 :: some d :: l) S (fun y S1 => f d y S1 fun z S2 => nx (x0 :: x1 :: x2 :: some z :: l) S2) fun x S1 => ex x (x0 :: x1 :: x2 :: some d :: l) S1) : sAug 3 te f (x0 :: x1 :: x2 :: some d :: l) S ⟨nx, rt, bk, ct, ex⟩ := k
theorem vr4 {x0 x1 x2 x3 : Option D} {l : Ev} {d : D} {S : Sto} {Q : DK} {E : EK} (k : Q d S) : vr 4 (x0 :: x1 :: x2 :: x3 :: some d :: l) S Q E := k
theorem set4 {x0 x1 x2 x3 : Option D} {y : Option D} {l : Ev} {d : D} {S : Sto} {nx : Ev → Sto → Prop} (k : nx (x0 :: x1 :: x2 :: x3 :: some d :: l) S) : asgK S (.nm 4) d (x0 :: x1 :: x2 :: x3 :: y :: l) nx := k
theorem uns4 {x0 x1 x2 x3 : Option D} {y : Option D} {l : Ev} {k : Ev → Prop} (h : k (x0 :: x1 :: x2 :: x3 :: none :: l)) : unsK 4 (x0 :: x1 :: x2 :: x3 :: y :: l) k := h
theorem aug4 {x0 x1 x2 x3 : Option D} {l : Ev} {d : D} {S : Sto} {te : TEd} {f : F2} {nx bk ct : Ev → Sto → Prop} {rt : DK} {ex : Xc → Ev → Sto → Prop} (k : te (x0 :: x1 :: x2 :: x3 :: some d :: l) S (fun y S1 => f d y S1 fun z S2 => nx (x0 :: x1 :: x2 :: x3 :: some z :: l) S2) fun x S1 => ex x (x0 :: x1 :: x2 :: x3 :: some d :: l) S1) : sAug 4 te f (x0 :: x1 :: x2 :: x3 :: some d :: l) S ⟨nx, rt, bk, ct, ex⟩ := k
theorem vr5 {x0 x1 x2 x3 x4 : Option D} {l : Ev} {d : D} {S : Sto} {Q : DK} {E : EK} (k : Q d S) : vr 5 (x0 :: x1 :: x2 :: x3 :: x4 :: some d :: l) S Q E := k
theorem set5 {x0 x1 x2 x3 x4 : Option D} {y : Option D} {l : Ev} {d : D} {S : Sto} {nx : Ev → Sto → Prop} (k : nx (x0 :: x1 :: x2 :: x3 :: x4 :: some d :: l) S) : asgK S (.nm 5) d (x0 :: x1 :: x2 :: x3 :: x4 :: y :: l) nx := k
theorem uns5 {x0 x1 x2 x3 x4 : Option D} {y : Option D} {l : Ev} {k : Ev → Prop} (h : k (x0 :: x1 :: x2 :: x3 :: x4 :: none :: l)) : unsK 5 (x0 :: x1 :: x2 :: x3 :: x4 :: y :: l) k := h
theorem aug5 {x0 x1 x2 x3 x4 : Option D} {l : Ev} {d : D} {S : Sto} {te : TEd} {f : F2} {nx bk ct : Ev → Sto → Prop} {rt : DK} {ex : Xc → Ev → Sto → Prop} (k : te (x0 :: x1 :: x2 :: x3 :: x4 :: some d :: l) S (fun y S1 => f d y S1 fun z S2 => nx (x0 :: x1 :: x2 :: x3 :: x4 :: some z :: l) S2) fun x S1 => ex x (x0 :: x1 :: x2 :: x3 :: x4 :: some d :: l) S1) : sAug 5 te f (x0 :: x1 :: x2 :: x3 :: x4 :: some d :: l) S ⟨nx, rt, bk, ct, ex⟩ := k
theorem vr6 {x0 x1 x2 x3 x4 x5 : Option D} {l : Ev} {d : D} {S : Sto} {Q : DK} {E : EK} (k : Q d S) : vr 6 (x0 :: x1 :: x2 :: x3 :: x4 :: x5 :: some d :: l) S Q E := k
theorem set6 {x0 x1 x2 x3 x4 x5 : Option D} {y : Option D} {l : Ev} {d : D} {S : Sto} {nx : Ev → Sto → Prop} (k : nx (x0 :: x1 :: x2 :: x3 :: x4 :: x5 :: some d :: l) S) : asgK S (.nm 6) d (x0 :: x1 :: x2 :: x3 :: x4 :: x5 :: y :: l) nx := k
theorem uns6 {x0 x1 x2 x3 x4 x5 : Option D} {y : Option D} {l : Ev} {k : Ev → Prop} (h : k (x0 :: x1 :: x2 :: x3 :: x4 :: x5 :: none :: l)) : unsK 6 (x0 :: x1 :: x2 :: x3 :: x4 :: x5 :: y :: l) k := h
theorem aug6 {x0 x1 x2 x3 x4 x5 : Option D} {l : Ev} {d : D} {S : Sto} {te : TEd} {f : F2} {nx bk ct : Ev → Sto → Prop} {rt : DK} {ex : Xc → Ev → Sto → Prop} (k : te (x0 :: x1 :: x2 :: x3 :: x4 :: x5 :: some d :: l) S (fun y S1 => f d y S1 fun z S2 => nx (x0 :: x1 :: x2 :: x3 :: x4 :: x5 :: some z :: l) S2) fun x S1 => ex x (x0 :: x1 :: x2 :: x3 :: x4 :: x5 :: some d :: l) S1) : sAug 6 te f (x0 :: x1 :: x2 :: x3 :: x4 :: x5 :: some d :: l) S ⟨nx, rt, bk, ct, ex⟩ := k
theorem vr7 {x0 x1 x2 x3 x4 x5 x6 : Option D} {l : Ev} {d : D} {S : Sto} {Q : DK} {E : EK} (k : Q d S) : vr 7 (x0 :: x1 :: x2 :: x3 :: x4 :: x5 :: x6 :: some d :: l) S Q E := k
theorem set7 {x0 x1 x2 x3 x4 x5 x6 : Option D} {y : Option D} {l : Ev} {d : D} {S : Sto} {nx : Ev → Sto → Prop} (k : nx (x0 :: x1 :: x2 :: x3 :: x4 :: x5 :: x6 :: some d :: l) S) : asgK S (.nm 7) d (x0 :: x1 :: x2 :: x3 :: x4 :: x5 :: x6 :: y :: l) nx := k
theorem uns7 {x0 x1 x2 x3 x4 x5 x6 : Option D} {y : Option D} {l : Ev} {k : Ev → Prop} (h : k (x0 :: x1 :: x2 :: x3 :: x4 :: x5 :: x6 :: none :: l)) : unsK 7 (x0 :: x1 :: x2 :: x3 :: x4 :: x5 :: x6 :: y :: l) k := h
theorem aug7 {x0 x1 x2 x3 x4 x5 x6 : Option D} {l : Ev} {d : D} {S : Sto} {te : TEd} {f : F2} {nx bk ct : Ev → Sto → Prop} {rt : DK} {ex : Xc → Ev → Sto → Prop} (k : te (x0 :: x1 :: x2 :: x3 :: x4 :: x5 :: x6 :: some d :: l) S (fun y S1 => f d y S1 fun z S2 => nx (x0 :: x1 :: x2 :: x3 :: x4 :: x5 :: x6 :: some z :: l) S2) fun x S1 => ex x (x0 :: x1 :: x2 :: x3 :: x4 :: x5 :: x6 :: some d :: l) S1) : sAug 7 te f (x0 :: x1 :: x2 :: x3 :: x4 :: x5 :: x6 :: some d :: l) S ⟨nx, rt, bk, ct, ex⟩ := k
theorem vr8 {x0 x1 x2 x3 x4 x5 x6 x7 : Option D} {l : Ev} {d : D} {S : Sto} {Q : DK} {E : EK} (k : Q d S) : vr 8 (x0 :: x1 :: x2 :: x3 :: x4 :: x5 :: x6 :: x7 :: some d :: l) S Q E := k
theorem set8 {x0 x1 x2 x3 x4 x5 x6 x7 : Option D} {y : Option D} {l : Ev} {d : D} {S : Sto} {nx : Ev → Sto → Prop} (k : nx (x0 :: x1 :: x2 :: x3 :: x4 :: x5 :: x6 :: x7 :: some d :: l) S) : asgK S (.nm 8) d (x0 :: x1 :: x2 :: x3 :: x4 :: x5 :: x6 :: x7 :: y :: l) nx := k
theorem uns8 {x0 x1 x2 x3 x4 x5 x6 x7 : Option D} {y : Option D} {l : Ev} {k : Ev → Prop} (h : k (x0 :: x1 :: x2 :: x3 :: x4 :: x5 :: x6 :: x7 :: none :: l)) : unsK 8 (x0 :: x1 :: x2 :: x3 :: x4 :: x5 :: x6 :: x7 :: y :: l) k := h
theorem aug8 {x0 x1 x2 x3 x4 x5 x6 x7 : Option D} {l : Ev} {d : D} {S : Sto} {te : TEd} {f : F2} {nx bk ct : Ev → Sto → Prop} {rt : DK} {ex : Xc → Ev → Sto → Prop} (k : te (x0 :: x1 :: x2 :: x3 :: x4 :: x5 :: x6 :: x7 :: some d :: l) S (fun y S1 => f d y S1 fun z S2 => nx (x0 :: x1 :: x2 :: x3 :: x4 :: x5 :: x6 :: x7 :: some z :: l) S2) fun x S1 => ex x (x0 :: x1 :: x2 :: x3 :: x4 :: x5 :: x6 :: x7 :: some d :: l) S1) : sAug 8 te f (x0 :: x1 :: x2 :: x3 :: x4 :: x5 :: x6 :: x7 :: some d :: l) S ⟨nx, rt, bk, ct, ex⟩ := k
theorem vr9 {x0 x1 x2 x3 x4 x5 x6 x7 x8 : Option D} {l : Ev} {d : D} {S : Sto} {Q : DK} {E : EK} (k : Q d S) : vr 9 (x0 :: x1 :: x2 :: x3 :: x4 :: x5 :: x6 :: x7 :: x8 :: some d :: l) S Q E := k
theorem set9 {x0 x1 x2 x3 x4 x5 x6 x7 x8 : Option D} {y : Option D} {l : Ev} {d : D} {S : Sto} {nx : Ev → Sto → Prop} (k : nx (x0 :: x1 :: x2 :: x3 :: x4 :: x5 :: x6 :: x7 :: x8 :: some d :: l) S) : asgK S (.nm 9) d (x0 :: x1 :: x2 :: x3 :: x4 :: x5 :: x6 :: x7 :: x8 :: y :: l) nx := k
theorem uns9 {x0 x1 x2 x3 x4 x5 x6 x7 x8 : Option D} {y : Option D} {l : Ev} {k : Ev → Prop} (h : k (x0 :: x1 :: x2 :: x3 :: x4 :: x5 :: x6 :: x7 :: x8 :: none :: l)) : unsK 9 (x0 :: x1 :: x2 :: x3 :: x4 :: x5 :: x6 :: x7 :: x8 :: y :: l) k := h
theorem aug9 {x0 x1 x2 x3 x4 x5 x6 x7 x8 : Option D} {l : Ev} {d : D} {S : Sto} {te : TEd} {f : F2} {nx bk ct : Ev → Sto → Prop} {rt : DK} {ex : Xc → Ev → Sto → Prop} (k : te (x0 :: x1 :: x2 :: x3 :: x4 :: x5 :: x6 :: x7 :: x8 :: some d :: l) S (fun y S1 => f d y S1 fun z S2 => nx (x0 :: x1 :: x2 :: x3 :: x4 :: x5 :: x6 :: x7 :: x8 :: some z :: l) S2) fun x S1 => ex x (x0 :: x1 :: x2 :: x3 :: x4 :: x5 :: x6 :: x7 :: x8 :: some d :: l) S1) : sAug 9 te f (x0 :: x1 :: x2 :: x3 :: x4 :: x5 :: x6 :: x7 :: x8 :: some d :: l) S ⟨nx, rt, bk, ct, ex⟩ := k
theorem vr10 {x0 x1 x2 x3 x4 x5 x6 x7 x8 x9 : Option D} {l : Ev} {d : D} {S : Sto} {Q : DK} {E : EK} (k : Q d S) : vr 10 (x0 :: x1 :: x2 :: x3 :: x4 :: x5 :: x6 :: x7 :: x8 :: x9 :: some d :: l) S Q E := k
theorem set10 {x0 x1 x2 x3 x4 x5 x6 x7 x8 x9 : Option D} {y : Option D} {l : Ev} {d : D} {S : Sto} {nx : Ev → Sto → Prop} (k : nx (x0 :: x1 :: x2 :: x3 :: x4 :: x5 :: x6 :: x7 :: x8 :: x9 :: some d :: l) S) : asgK S (.nm 10) d (x0 :: x1 :: x2 :: x3 :: x4 :: x5 :: x6 :: x7 :: x8 :: x9 :: y :: l) nx := k
theorem uns10 {x0 x1 x2 x3 x4 x5 x6 x7 x8 x9 : Option D} {y : Option D} {l : Ev} {k : Ev → Prop} (h : k (x0 :: x1 :: x2 :: x3 :: x4 :: x5 :: x6 :: x7 :: x8 :: x9 :: none :: l)) : unsK 10 (x0 :: x1 :: x2 :: x3 :: x4 :: x5 :: x6 :: x7 :: x8 :: x9 :: y :: l) k := h
theorem aug10 {x0 x1 x2 x3 x4 x5 x6 x7 x8 x9 : Option D} {l : Ev} {d : D} {S : Sto} {te : TEd} {f : F2} {nx bk ct : Ev → Sto → Prop} {rt : DK} {ex : Xc → Ev → Sto → Prop} (k : te (x0 :: x1 :: x2 :: x3 :: x4 :: x5 :: x6 :: x7 :: x8 :: x9 :: some d :: l) S (fun y S1 => f d y S1 fun z S2 => nx (x0 :: x1 :: x2 :: x3 :: x4 :: x5 :: x6 :: x7 :: x8 :: x9 :: some z :: l) S2) fun x S1 => ex x (x0 :: x1 :: x2 :: x3 :: x4 :: x5 :: x6 :: x7 :: x8 :: x9 :: some d :: l) S1) : sAug 10 te f (x0 :: x1 :: x2 :: x3 :: x4 :: x5 :: x6 :: x7 :: x8 :: x9 :: some d :: l) S ⟨nx, rt, bk, ct, ex⟩ := k
theorem vr11 {x0 x1 x2 x3 x4 x5 x6 x7 x8 x9 x10 : Option D} {l : Ev} {d : D} {S : Sto} {Q : DK} {E : EK} (k : Q d S) : vr 11 (x0 :: x1 :: x2 :: x3 :: x4 :: x5 :: x6 :: x7 :: x8 :: x9 :: x10 :: some d :: l) S Q E := k
theorem set11 {x0 x1 x2 x3 x4 x5 x6 x7 x8 x9 x10 : Option D} {y : Option D} {l : Ev} {d : D} {S : Sto} {nx : Ev → Sto → Prop} (k : nx (x0 :: x1 :: x2 :: x3 :: x4 :: x5 :: x6 :: x7 :: x8 :: x9 :: x10 :: some d :: l) S) : asgK S (.nm 11) d (x0 :: x1 :: x2 :: x3 :: x4 :: x5 :: x6 :: x7 :: x8 :: x9 :: x10 :: y :: l) nx := k
theorem uns11 {x0 x1 x2 x3 x4 x5 x6 x7 x8 x9 x10 : Option D} {y : Option D} {l : Ev} {k : Ev → Prop} (h : k (x0 :: x1 :: x2 :: x3 :: x4 :: x5 :: x6 :: x7 :: x8 :: x9 :: x10 :: none :: l)) : unsK 11 (x0 :: x1 :: x2 :: x3 :: x4 :: x5 :: x6 :: x7 :: x8 :: x9 :: x10 :: y :: l) k := h
theorem aug11 {x0 x1 x2 x3 x4 x5 x6 x7 x8 x9 x10 : Option D} {l : Ev} {d : D} {S : Sto} {te : TEd} {f : F2} {nx bk ct : Ev → Sto → Prop} {rt : DK} {ex : Xc → Ev → Sto → Prop} (k : te (x0 :: x1 :: x2 :: x3 :: x4 :: x5 :: x6 :: x7 :: x8 :: x9 :: x10 :: some d :: l) S (fun y S1 => f d y S1 fun z S2 => nx (x0 :: x1 :: x2 :: x3 :: x4 :: x5 :: x6 :: x7 :: x8 :: x9 :: x10 :: some z :: l) S2) fun x S1 => ex x (x0 :: x1 :: x2 :: x3 :: x4 :: x5 :: x6 :: x7 :: x8 :: x9 :: x10 :: some d :: l) S1) : sAug 11 te f (x0 :: x1 :: x2 :: x3 :: x4 :: x5 :: x6 :: x7 :: x8 :: x9 :: x10 :: some d :: l) S ⟨nx, rt, bk, ct, ex⟩ := k
theorem vr12 {x0 x1 x2 x3 x4 x5 x6 x7 x8 x9 x10 x11 : Option D} {l : Ev} {d : D} {S : Sto} {Q : DK} {E : EK} (k : Q d S) : vr 12 (x0 :: x1 :: x2 :: x3 :: x4 :: x5 :: x6 :: x7 :: x8 :: x9 :: x10 :: x11 :: some d :: l) S Q E := k
theorem set12 {x0 x1 x2 x3 x4 x5 x6 x7 x8 x9 x10 x11 : Option D} {y : Option D} {l : Ev} {d : D} {S : Sto} {nx : Ev → Sto → Prop} (k : nx (x0 :: x1 :: x2 :: x3 :: x4 :: x5 :: x6 :: x7 :: x8 :: x9 :: x10 :: x11 :: some d :: l) S) : asgK S (.nm 12) d (x0 :: x1 :: x2 :: x3 :: x4 :: x5 :: x6 :: x7 :: x8 :: x9 :: x10 :: x11 :: y :: l) nx := k
theorem uns12 {x0 x1 x2 x3 x4 x5 x6 x7 x8 x9 x10 x11 : Option D} {y : Option D} {l : Ev} {k : Ev → Prop} (h : k (x0 :: x1 :: x2 :: x3 :: x4 :: x5 :: x6 :: x7 :: x8 :: x9 :: x10 :: x11 :: none :: l)) : unsK 12 (x0 :: x1 :: x2 :: x3 :: x4 :: x5 :: x6 :: x7 :: x8 :: x9 :: x10 :: x11 :: y :: l) k := h
theorem aug12 {x0 x1 x2 x3 x4 x5 x6 x7 x8 x9 x10 x11 : Option D} {l : Ev} {d : D} {S : Sto} {te : TEd} {f : F2} {nx bk ct : Ev → Sto → Prop} {rt : DK} {ex : Xc → Ev → Sto → Prop} (k : te (x0 :: x1 :: x2 :: x3 :: x4 :: x5 :: x6 :: x7 :: x8 :: x9 :: x10 :: x11 :: some d :: l) S (fun y S1 => f d y S1 fun z S2 => nx (x0 :: x1 :: x2 :: x3 :: x4 :: x5 :: x6 :: x7 :: x8 :: x9 :: x10 :: x11 :: some z :: l) S2) fun x S1 => ex x (x0 :: x1 :: x2 :: x3 :: x4 :: x5 :: x6 :: x7 :: x8 :: x9 :: x10 :: x11 :: some d :: l) S1) : sAug 12 te f (x0 :: x1 :: x2 :: x3 :: x4 :: x5 :: x6 :: x7 :: x8 :: x9 :: x10 :: x11 :: some d :: l) S ⟨nx, rt, bk, ct, ex⟩ := k
theorem vr13 {x0 x1 x2 x3 x4 x5 x6 x7 x8 x9 x10 x11 x12 : Option D} {l : Ev} {d : D} {S : Sto} {Q : DK} {E : EK} (k : Q d S) : vr 13 (x0 :: x1 :: x2 :: x3 :: x4 :: x5 :: x6 :: x7 :: x8 :: x9 :: x10 :: x11 :: x12 :: some d :: l) S Q E := k
theorem set13 {x0 x1 x2 x3 x4 x5 x6 x7 x8 x9 x10 x11 x12 : Option D} {y : Option D} {l : Ev} {d : D} {S : Sto} {nx : Ev → Sto → Prop} (k : nx (x0 :: x1 :: x2 :: x3 :: x4 :: x5 :: x6 :: x7 :: x8 :: x9 :: x10 :: x11 :: x12 :: some d :: l) S) : asgK S (.nm 13) d (x0 :: x1 :: x2 :: x3 :: x4 :: x5 :: x6 :: x7 :: x8 :: x9 :: x10 :: x11 :: x12 :: y :: l) nx := k
theorem uns13 {x0 x1 x2 x3 x4 x5 x6 x7 x8 x9 x10 x11 x12 : Option D} {y : Option D} {l : Ev} {k : Ev → Prop} (h : k (x0 :: x1 :: x2 :: x3 :: x4 :: x5 :: x6 :: x7 :: x8 :: x9 :: x10 :: x11 :: x12 :: none :: l)) : unsK 13 (x0 :: x1 :: x2 :: x3 :: x4 :: x5 :: x6 :: x7 :: x8 :: x9 :: x10 :: x11 :: x12 :: y :: l) k := h
theorem aug13 {x0 x1 x2 x3 x4 x5 x6 x7 x8 x9 x10 x11 x12 : Option D} {l : Ev} {d : D} {S : Sto} {te : TEd} {f : F2} {nx bk ct : Ev → Sto → Prop} {rt : DK} {ex : Xc → Ev → Sto → Prop} (k : te (x0 :: x1 :: x2 :: x3 :: x4 :: x5 :: x6 :: x7 :: x8 :: x9 :: x10 :: x11 :: x12 :: some d :: l) S (fun y S1 => f d y S1 fun z S2 => nx (x0 :: x1 :: x2 :: x3 :: x4 :: x5 :: x6 :: x7 :: x8 :: x9 :: x10 :: x11 :: x12 :: some z :: l) S2) fun x S1 => ex x (x0 :: x1 :: x2 :: x3 :: x4 :: x5 :: x6 :: x7 :: x8 :: x9 :: x10 :: x11 :: x12 :: some d :: l) S1) : sAug 13 te f (x0 :: x1 :: x2 :: x3 :: x4 :: x5 :: x6 :: x7 :: x8 :: x9 :: x10 :: x11 :: x12 :: some d :: l) S ⟨nx, rt, bk, ct, ex⟩ := k
theorem vr14 {x0 x1 x2 x3 x4 x5 x6 x7 x8 x9 x10 x11 x12 x13 : Option D} {l : Ev} {d : D} {S : Sto} {Q : DK} {E : EK} (k : Q d S) : vr 14 (x0 :: x1 :: x2 :: x3 :: x4 :: x5 :: x6 :: x7 :: x8 :: x9 :: x10 :: x11 :: x12 :: x13 :: some d :: l) S Q E := k
theorem set14 {x0 x1 x2 x3 x4 x5 x6 x7 x8 x9 x10 x11 x12 x13 : Option D} {y : Option D} {l : Ev} {d : D} {S : Sto} {nx : Ev → Sto → Prop} (k : nx (x0 :: x1 :: x2 :: x3 :: x4 :: x5 :: x6 :: x7 :: x8 :: x9 :: x10 :: x11 :: x12 :: x13 :: some d :: l) S) : asgK S (.nm 14) d (x0 :: x1 :: x2 :: x3 :: x4 :: x5 :: x6 :: x7 :: x8 :: x9 :: x10 :: x11 :: x12 :: x13 :: y :: l) nx := k
theorem uns14 {x0 x1 x2 x3 x4 x5 x6 x7 x8 x9 x10 x11 x12 x13 : Option D} {y : Option D} {l : Ev} {k : Ev → Prop} (h : k (x0 :: x1 :: x2 :: x3 :: x4 :: x5 :: x6 :: x7 :: x8 :: x9 :: x10 :: x11 :: x12 :: x13 :: none :: l)) : unsK 14 (x0 :: x1 :: x2 :: x3 :: x4 :: x5 :: x6 :: x7 :: x8 :: x9 :: x10 :: x11 :: x12 :: x13 :: y :: l) k := h
theorem aug14 {x0 x1 x2 x3 x4 x5 x6 x7 x8 x9 x10 x11 x12 x13 : Option D} {l : Ev} {d : D} {S : Sto} {te : TEd} {f : F2} {nx bk ct : Ev → Sto → Prop} {rt : DK} {ex : Xc → Ev → Sto → Prop} (k : te (x0 :: x1 :: x2 :: x3 :: x4 :: x5 :: x6 :: x7 :: x8 :: x9 :: x10 :: x11 :: x12 :: x13 :: some d :: l) S (fun y S1 => f d y S1 fun z S2 => nx (x0 :: x1 :: x2 :: x3 :: x4 :: x5 :: x6 :: x7 :: x8 :: x9 :: x10 :: x11 :: x12 :: x13 :: some z :: l) S2) fun x S1 => ex x (x0 :: x1 :: x2 :: x3 :: x4 :: x5 :: x6 :: x7 :: x8 :: x9 :: x10 :: x11 :: x12 :: x13 :: some d :: l) S1) : sAug 14 te f (x0 :: x1 :: x2 :: x3 :: x4 :: x5 :: x6 :: x7 :: x8 :: x9 :: x10 :: x11 :: x12 :: x13 :: some d :: l) S ⟨nx, rt, bk, ct, ex⟩ := k
theorem vr15 {x0 x1 x2 x3 x4 x5 x6 x7 x8 x9 x10 x11 x12 x13 x14 : Option D} {l : Ev} {d : D} {S : Sto} {Q : DK} {E : EK} (k : Q d S) : vr 15 (x0 :: x1 :: x2 :: x3 :: x4 :: x5 :: x6 :: x7 :: x8 :: x9 :: x10 :: x11 :: x12 :: x13 :: x14 :: some d :: l) S Q E := k
theorem set15 {x0 x1 x2 x3 x4 x5 x6 x7 x8 x9 x10 x11 x12 x13 x14 : Option D} {y : Option D} {l : Ev} {d : D} {S : Sto} {nx : Ev → Sto → Prop} (k : nx (x0 :: x1 :: x2 :: x3 :: x4 :: x5 :: x6 :: x7 :: x8 :: x9 :: x10 :: x11 :: x12 :: x13 :: x14 :: some d :: l) S) : asgK S (.nm 15) d (x0 :: x1 :: x2 :: x3 :: x4 :: x5 :: x6 :: x7 :: x8 :: x9 :: x10 :: x11 :: x12 :: x13 :: x14 :: y :: l) nx := k
theorem uns15 {x0 x1 x2 x3 x4 x5 x6 x7 x8 x9 x10 x11 x12 x13 x14 : Option D} {y : Option D} {l : Ev} {k : Ev → Prop} (h : k (x0 :: x1 :: x2 :: x3 :: x4 :: x5 :: x6 :: x7 :: x8 :: x9 :: x10 :: x11 :: x12 :: x13 :: x14 :: none :: l)) : unsK 15 (x0 :: x1 :: x2 :: x3 :: x4 :: x5 :: x6 :: x7 :: x8 :: x9 :: x10 :: x11 :: x12 :: x13 :: x14 :: y :: l) k := h
theorem aug15 {x0 x1 x2 x3 x4 x5 x6 x7 x8 x9 x10 x11 x12 x13 x14 : Option D} {l : Ev} {d : D} {S : Sto} {te : TEd} {f : F2} {nx bk ct : Ev → Sto → Prop} {rt : DK} {ex : Xc → Ev → Sto → Prop} (k : te (x0 :: x1 :: x2 :: x3 :: x4 :: x5 :: x6 :: x7 :: x8 :: x9 :: x10 :: x11 :: x12 :: x13 :: x14 :: some d :: l) S (fun y S1 => f d y S1 fun z S2 => nx (x0 :: x1 :: x2 :: x3 :: x4 :: x5 :: x6 :: x7 :: x8 :: x9 :: x10 :: x11 :: x12 :: x13 :: x14 :: some z :: l) S2) fun x S1 => ex x (x0 :: x1 :: x2 :: x3 :: x4 :: x5 :: x6 :: x7 :: x8 :: x9 :: x10 :: x11 :: x12 :: x13 :: x14 :: some d :: l) S1) : sAug 15 te f (x0 :: x1 :: x2 :: x3 :: x4 :: x5 :: x6 :: x7 :: x8 :: x9 :: x10 :: x11 :: x12 :: x13 :: x14 :: some d :: l) S ⟨nx, rt, bk, ct, ex⟩ := k
theorem vr16 {x0 x1 x2 x3 x4 x5 x6 x7 x8 x9 x10 x11 x12 x13 x14 x15 : Option D} {l : Ev} {d : D} {S : Sto} {Q : DK} {E : EK} (k : Q d S) : vr 16 (x0 :: x1 :: x2 :: x3 :: x4 :: x5 :: x6 :: x7 :: x8 :: x9 :: x10 :: x11 :: x12 :: x13 :: x14 :: x15 :: some d :: l) S Q E := k
theorem set16 {x0 x1 x2 x3 x4 x5 x6 x7 x8 x9 x10 x11 x12 x13 x14 x15 : Option D} {y : Option D} {l : Ev} {d : D} {S : Sto} {nx : Ev → Sto → Prop} (k : nx (x0 :: x1 :: x2 :: x3 :: x4 :: x5 :: x6 :: x7 :: x8 :: x9 :: x10 :: x11 :: x12 :: x13 :: x14 :: x15 :: some d :: l) S) : asgK S (.nm 16) d (x0 :: x1 :: x2 :: x3 :: x4 :: x5 :: x6 :: x7 :: x8 :: x9 :: x10 :: x11 :: x12 :: x13 :: x14 :: x15 :: y :: l) nx := k
theorem uns16 {x0 x1 x2 x3 x4 x5 x6 x7 x8 x9 x10 x11 x12 x13 x14 x15 : Option D} {y : Option D} {l : Ev} {k : Ev → Prop} (h : k (x0 :: x1 :: x2 :: x3 :: x4 :: x5 :: x6 :: x7 :: x8 :: x9 :: x10 :: x11 :: x12 :: x13 :: x14 :: x15 :: none :: l)) : unsK 16 (x0 :: x1 :: x2 :: x3 :: x4 :: x5 :: x6 :: x7 :: x8 :: x9 :: x10 :: x11 :: x12 :: x13 :: x14 :: x15 :: y :: l) k := h
theorem aug16 {x0 x1 x2 x3 x4 x5 x6 x7 x8 x9 x10 x11 x12 x13 x14 x15 : Option D} {l : Ev} {d : D} {S : Sto} {te : TEd} {f : F2} {nx bk ct : Ev → Sto → Prop} {rt : DK} {ex : Xc → Ev → Sto → Prop} (k : te (x0 :: x1 :: x2 :: x3 :: x4 :: x5 :: x6 :: x7 :: x8 :: x9 :: x10 :: x11 :: x12 :: x13 :: x14 :: x15 :: some d :: l) S (fun y S1 => f d y S1 fun z S2 => nx (x0 :: x1 :: x2 :: x3 :: x4 :: x5 :: x6 :: x7 :: x8 :: x9 :: x10 :: x11 :: x12 :: x13 :: x14 :: x15 :: some z :: l) S2) fun x S1 => ex x (x0 :: x1 :: x2 :: x3 :: x4 :: x5 :: x6 :: x7 :: x8 :: x9 :: x10 :: x11 :: x12 :: x13 :: x14 :: x15 :: some d :: l) S1) : sAug 16 te f (x0 :: x1 :: x2 :: x3 :: x4 :: x5 :: x6 :: x7 :: x8 :: x9 :: x10 :: x11 :: x12 :: x13 :: x14 :: x15 :: some d :: l) S ⟨nx, rt, bk, ct, ex⟩ := k
theorem vr17 {x0 x1 x2 x3 x4 x5 x6 x7 x8 x9 x10 x11 x12 x13 x14 x15 x16 : Option D} {l : Ev} {d : D} {S : Sto} {Q : DK} {E : EK} (k : Q d S) : vr 17 (x0 :: x1 :: x2 :: x3 :: x4 :: x5 :: x6 :: x7 :: x8 :: x9 :: x10 :: x11 :: x12 :: x13 :: x14 :: x15 :: x16 :: some d :: l) S Q E := k
theorem set17 {x0 x1 x2 x3 x4 x5 x6 x7 x8 x9 x10 x11 x12 x13 x14 x15 x16 : Option D} {y : Option D} {l : Ev} {d : D} {S : Sto} {nx : Ev → Sto → Prop} (k : nx (x0 :: x1 :: x2 :: x3 :: x4 :: x5 :: x6 :: x7 :: x8 :: x9 :: x10 :: x11 :: x12 :: x13 :: x14 :: x15 :: x16 :: some d :: l) S) : asgK S (.nm 17) d (x0 :: x1 :: x2 :: x3 :: x4 :: x5 :: x6 :: x7 :: x8 :: x9 :: x10 :: x11 :: x12 :: x13 :: x14 :: x15 :: x16 :: y :: l) nx := k
theorem uns17 {x0 x1 x2 x3 x4 x5 x6 x7 x8 x9 x10 x11 x12 x13 x14 x15 x16 : Option D} {y : Option D} {l : Ev} {k : Ev → Prop} (h : k (x0 :: x1 :: x2 :: x3 :: x4 :: x5 :: x6 :: x7 :: x8 :: x9 :: x10 :: x11 :: x12 :: x13 :: x14 :: x15 :: x16 :: none :: l)) : unsK 17 (x0 :: x1 :: x2 :: x3 :: x4 :: x5 :: x6 :: x7 :: x8 :: x9 :: x10 :: x11 :: x12 :: x13 :: x14 :: x15 :: x16 :: y :: l) k := h
theorem aug17 {x0 x1 x2 x3 x4 x5 x6 x7 x8 x9 x10 x11 x12 x13 x14 x15 x16 : Option D} {l : Ev} {d : D} {S : Sto} {te : TEd} {f : F2} {nx bk ct : Ev → Sto → Prop} {rt : DK} {ex : Xc → Ev → Sto → Prop} (k : te (x0 :: x1 :: x2 :: x3 :: x4 :: x5 :: x6 :: x7 :: x8 :: x9 :: x10 :: x11 :: x12 :: x13 :: x14 :: x15 :: x16 :: some d :: l) S (fun y S1 => f d y S1 fun z S2 => nx (x0 :: x1 :: x2 :: x3 :: x4 :: x5 :: x6 :: x7 :: x8 :: x9 :: x10 :: x11 :: x12 :: x13 :: x14 :: x15 :: x16 :: some z :: l) S2) fun x S1 => ex x (x0 :: x1 :: x2 :: x3 :: x4 :: x5 :: x6 :: x7 :: x8 :: x9 :: x10 :: x11 :: x12 :: x13 :: x14 :: x15 :: x16 :: some d :: l) S1) : sAug 17 te f (x0 :: x1 :: x2 :: x3 :: x4 :: x5 :: x6 :: x7 :: x8 :: x9 :: x10 :: x11 :: x12 :: x13 :: x14 :: x15 :: x16 :: some d :: l) S ⟨nx, rt, bk, ct, ex⟩ := k
theorem vr18 {x0 x1 x2 x3 x4 x5 x6 x7 x8 x9 x10 x11 x12 x13 x14 x15 x16 x17 : Option D} {l : Ev} {d : D} {S : Sto} {Q : DK} {E : EK} (k : Q d S) : vr 18 (x0 :: x1 :: x2 :: x3 :: x4 :: x5 :: x6 :: x7 :: x8 :: x9 :: x10 :: x11 :: x12 :: x13 :: x14 :: x15 :: x16 :: x17 :: some d :: l) S Q E := k
theorem set18 {x0 x1 x2 x3 x4 x5 x6 x7 x8 x9 x10 x11 x12 x13 x14 x15 x16 x17 : Option D} {y : Option D} {l : Ev} {d : D} {S : Sto} {nx : Ev → Sto → Prop} (k : nx (x0 :: x1 :: x2 :: x3 :: x4 :: x5 :: x6 :: x7 :: x8 :: x9 :: x10 :: x11 :: x12 :: x13 :: x14 :: x15 :: x16 :: x17 :: some d :: l) S) : asgK S (.nm 18) d (x0 :: x1 :: x2 :: x3 :: x4 :: x5 :: x6 :: x7 :: x8 :: x9 :: x10 :: x11 :: x12 :: x13 :: x14 :: x15 :: x16 :: x17 :: y :: l) nx := k
theorem uns18 {x0 x1 x2 x3 x4 x5 x6 x7 x8 x9 x10 x11 x12 x13 x14 x15 x16 x17 : Option D} {y : Option D} {l : Ev} {k : Ev → Prop} (h : k (x0 :: x1 :: x2 :: x3 :: x4 :: x5 :: x6 :: x7 :: x8 :: x9 :: x10 :: x11 :: x12 :: x13 :: x14 :: x15 :: x16 :: x17 :: none :: l)) : unsK 18 (x0 :: x1 :: x2 :: x3 :: x4 :: x5 :: x6 :: x7 :: x8 :: x9 :: x10 :: x11 :: x12 :: x13 :: x14 :: x15 :: x16 :: x17 :: y :: l) k := h
theorem aug18 {x0 x1 x2 x3 x4 x5 x6 x7 x8 x9 x10 x11 x12 x13 x14 x15 x16 x17 : Option D} {l : Ev} {d : D} {S : Sto} {te : TEd} {f : F2} {nx bk ct : Ev → Sto → Prop} {rt : DK} {ex : Xc → Ev → Sto → Prop} (k : te (x0 :: x1 :: x2 :: x3 :: x4 :: x5 :: x6 :: x7 :: x8 :: x9 :: x10 :: x11 :: x12 :: x13 :: x14 :: x15 :: x16 :: x17 :: some d :: l) S (fun y S1 => f d y S1 fun z S2 => nx (x0 :: x1 :: x2 :: x3 :: x4 :: x5 :: x6 :: x7 :: x8 :: x9 :: x10 :: x11 :: x12 :: x13 :: x14 :: x15 :: x16 :: x17 :: some z :: l) S2) fun x S1 => ex x (x0 :: x1 :: x2 :: x3 :: x4 :: x5 :: x6 :: x7 :: x8 :: x9 :: x10 :: x11 :: x12 :: x13 :: x14 :: x15 :: x16 :: x17 :: some d :: l) S1) : sAug 18 te f (x0 :: x1 :: x2 :: x3 :: x4 :: x5 :: x6 :: x7 :: x8 :: x9 :: x10 :: x11 :: x12 :: x13 :: x14 :: x15 :: x16 :: x17 :: some d :: l) S ⟨nx, rt, bk, ct, ex⟩ := k
theorem vr19 {x0 x1 x2 x3 x4 x5 x6 x7 x8 x9 x10 x11 x12 x13 x14 x15 x16 x17 x18 : Option D} {l : Ev} {d : D} {S : Sto} {Q : DK} {E : EK} (k : Q d S) : vr 19 (x0 :: x1 :: x2 :: x3 :: x4 :: x5 :: x6 :: x7 :: x8 :: x9 :: x10 :: x11 :: x12 :: x13 :: x14 :: x15 :: x16 :: x17 :: x18 :: some d :: l) S Q E := k
theorem set19 {x0 x1 x2 x3 x4 x5 x6 x7 x8 x9 x10 x11 x12 x13 x14 x15 x16 x17 x18 : Option D} {y : Option D} {l : Ev} {d : D} {S : Sto} {nx : Ev → Sto → Prop} (k : nx (x0 :: x1 :: x2 :: x3 :: x4 :: x5 :: x6 :: x7 :: x8 :: x9 :: x10 :: x11 :: x12 :: x13 :: x14 :: x15 :: x16 :: x17 :: x18 :: some d :: l) S) : asgK S (.nm 19) d (x0 :: x1 :: x2 :: x3 :: x4 :: x5 :: x6 :: x7 :: x8 :: x9 :: x10 :: x11 :: x12 :: x13 :: x14 :: x15 :: x16 :: x17 :: x18 :: y :: l) nx := k
theorem uns19 {x0 x1 x2 x3 x4 x5 x6 x7 x8 x9 x10 x11 x12 x13 x14 x15 x16 x17 x18 : Option D} {y : Option D} {l : Ev} {k : Ev → Prop} (h : k (x0 :: x1 :: x2 :: x3 :: x4 :: x5 :: x6 :: x7 :: x8 :: x9 :: x10 :: x11 :: x12 :: x13 :: x14 :: x15 :: x16 :: x17 :: x18 :: none :: l)) : unsK 19 (x0 :: x1 :: x2 :: x3 :: x4 :: x5 :: x6 :: x7 :: x8 :: x9 :: x10 :: x11 :: x12 :: x13 :: x14 :: x15 :: x16 :: x17 :: x18 :: y :: l) k := h
theorem aug19 {x0 x1 x2 x3 x4 x5 x6 x7 x8 x9 x10 x11 x12 x13 x14 x15 x16 x17 x18 : Option D} {l : Ev} {d : D} {S : Sto} {te : TEd} {f : F2} {nx bk ct : Ev → Sto → Prop} {rt : DK} {ex : Xc → Ev → Sto → Prop} (k : te (x0 :: x1 :: x2 :: x3 :: x4 :: x5 :: x6 :: x7 :: x8 :: x9 :: x10 :: x11 :: x12 :: x13 :: x14 :: x15 :: x16 :: x17 :: x18 :: some d :: l) S (fun y S1 => f d y S1 fun z S2 => nx (x0 :: x1 :: x2 :: x3 :: x4 :: x5 :: x6 :: x7 :: x8 :: x9 :: x10 :: x11 :: x12 :: x13 :: x14 :: x15 :: x16 :: x17 :: x18 :: some z :: l) S2) fun x S1 => ex x (x0 :: x1 :: x2 :: x3 :: x4 :: x5 :: x6 :: x7 :: x8 :: x9 :: x10 :: x11 :: x12 :: x13 :: x14 :: x15 :: x16 :: x17 :: x18 :: some d :: l) S1) : sAug 19 te f (x0 :: x1 :: x2 :: x3 :: x4 :: x5 :: x6 :: x7 :: x8 :: x9 :: x10 :: x11 :: x12 :: x13 :: x14 :: x15 :: x16 :: x17 :: x18 :: some d :: l) S ⟨nx, rt, bk, ct, ex⟩ := k
theorem vr20 {x0 x1 x2 x3 x4 x5 x6 x7 x8 x9 x10 x11 x12 x13 x14 x15 x16 x17 x18 x19 : Option D} {l : Ev} {d : D} {S : Sto} {Q : DK} {E : EK} (k : Q d S) : vr 20 (x0 :: x1 :: x2 :: x3 :: x4 :: x5 :: x6 :: x7 :: x8 :: x9 :: x10 :: x11 :: x12 :: x13 :: x14 :: x15 :: x16 :: x17 :: x18 :: x19 :: some d :: l) S Q E := k
theorem set20 {x0 x1 x2 x3 x4 x5 x6 x7 x8 x9 x10 x11 x12 x13 x14 x15 x16 x17 x18 x19 : Option D} {y : Option D} {l : Ev} {d : D} {S : Sto} {nx : Ev → Sto → Prop} (k : nx (x0 :: x1 :: x2 :: x3 :: x4 :: x5 :: x6 :: x7 :: x8 :: x9 :: x10 :: x11 :: x12 :: x13 :: x14 :: x15 :: x16 :: x17 :: x18 :: x19 :: some d :: l) S) : asgK S (.nm 20) d (x0 :: x1 :: x2 :: x3 :: x4 :: x5 :: x6 :: x7 :: x8 :: x9 :: x10 :: x11 :: x12 :: x13 :: x14 :: x15 :: x16 :: x17 :: x18 :: x19 :: y :: l) nx := k
theorem uns20 {x0 x1 x2 x3 x4 x5 x6 x7 x8 x9 x10 x11 x12 x13 x14 x15 x16 x17 x18 x19 : Option D} {y : Option D} {l : Ev} {k : Ev → Prop} (h : k (x0 :: x1 :: x2 :: x3 :: x4 :: x5 :: x6 :: x7 :: x8 :: x9 :: x10 :: x11 :: x12 :: x13 :: x14 :: x15 :: x16 :: x17 :: x18 :: x19 :: none :: l)) : unsK 20 (x0 :: x1 :: x2 :: x3 :: x4 :: x5 :: x6 :: x7 :: x8 :: x9 :: x10 :: x11 :: x12 :: x13 :: x14 :: x15 :: x16 :: x17 :: x18 :: x19 :: y :: l) k := h
theorem aug20 {x0 x1 x2 x3 x4 x5 x6 x7 x8 x9 x10 x11 x12 x13 x14 x15 x16 x17 x18 x19 : Option D} {l : Ev} {d : D} {S : Sto} {te : TEd} {f : F2} {nx bk ct : Ev → Sto → Prop} {rt : DK} {ex : Xc → Ev → Sto → Prop} (k : te (x0 :: x1 :: x2 :: x3 :: x4 :: x5 :: x6 :: x7 :: x8 :: x9 :: x10 :: x11 :: x12 :: x13 :: x14 :: x15 :: x16 :: x17 :: x18 :: x19 :: some d :: l) S (fun y S1 => f d y S1 fun z S2 => nx (x0 :: x1 :: x2 :: x3 :: x4 :: x5 :: x6 :: x7 :: x8 :: x9 :: x10 :: x11 :: x12 :: x13 :: x14 :: x15 :: x16 :: x17 :: x18 :: x19 :: some z :: l) S2) fun x S1 => ex x (x0 :: x1 :: x2 :: x3 :: x4 :: x5 :: x6 :: x7 :: x8 :: x9 :: x10 :: x11 :: x12 :: x13 :: x14 :: x15 :: x16 :: x17 :: x18 :: x19 :: some d :: l) S1) : sAug 20 te f (x0 :: x1 :: x2 :: x3 :: x4 :: x5 :: x6 :: x7 :: x8 :: x9 :: x10 :: x11 :: x12 :: x13 :: x14 :: x15 :: x16 :: x17 :: x18 :: x19 :: some d :: l) S ⟨nx, rt, bk, ct, ex⟩ := k
theorem vr21 {x0 x1 x2 x3 x4 x5 x6 x7 x8 x9 x10 x11 x12 x13 x14 x15 x16 x17 x18 x19 x20 : Option D} {l : Ev} {d : D} {S : Sto} {Q : DK} {E : EK} (k : Q d S) : vr 21 (x0 :: x1 :: x2 :: x3 :: x4 :: x5 :: x6 :: x7 :: x8 :: x9 :: x10 :: x11 :: x12 :: x13 :: x14 :: x15 :: x16 :: x17 :: x18 :: x19 :: x20 :: some d :: l) S Q E := k
theorem set21 {x0 x1 x2 x3 x4 x5 x6 x7 x8 x9 x10 x11 x12 x13 x14 x15 x16 x17 x18 x19 x20 : Option D} {y : Option D} {l : Ev} {d : D} {S : Sto} {nx : Ev → Sto → Prop} (k : nx (x0 :: x1 :: x2 :: x3 :: x4 :: x5 :: x6 :: x7 :: x8 :: x9 :: x10 :: x11 :: x12 :: x13 :: x14 :: x15 :: x16 :: x17 :: x18 :: x19 :: x20 :: some d :: l) S) : asgK S (.nm 21) d (x0 :: x1 :: x2 :: x3 :: x4 :: x5 :: x6 :: x7 :: x8 :: x9 :: x10 :: x11 :: x12 :: x13 :: x14 :: x15 :: x16 :: x17 :: x18 :: x19 :: x20 :: y :: l) nx := k
theorem uns21 {x0 x1 x2 x3 x4 x5 x6 x7 x8 x9 x10 x11 x12 x13 x14 x15 x16 x17 x18 x19 x20 : Option D} {y : Option D} {l : Ev} {k : Ev → Prop} (h : k (x0 :: x1 :: x2 :: x3 :: x4 :: x5 :: x6 :: x7 :: x8 :: x9 :: x10 :: x11 :: x12 :: x13 :: x14 :: x15 :: x16 :: x17 :: x18 :: x19 :: x20 :: none :: l)) : unsK 21 (x0 :: x1 :: x2 :: x3 :: x4 :: x5 :: x6 :: x7 :: x8 :: x9 :: x10 :: x11 :: x12 :: x13 :: x14 :: x15 :: x16 :: x17 :: x18 :: x19 :: x20 :: y :: l) k := h
theorem aug21 {x0 x1 x2 x3 x4 x5 x6 x7 x8 x9 x10 x11 x12 x13 x14 x15 x16 x17 x18 x19 x20 : Option D} {l : Ev} {d : D} {S : Sto} {te : TEd} {f : F2} {nx bk ct : Ev → Sto → Prop} {rt : DK} {ex : Xc → Ev → Sto → Prop} (k : te (x0 :: x1 :: x2 :: x3 :: x4 :: x5 :: x6 :: x7 :: x8 :: x9 :: x10 :: x11 :: x12 :: x13 :: x14 :: x15 :: x16 :: x17 :: x18 :: x19 :: x20 :: some d :: l) S (fun y S1 => f d y S1 fun z S2 => nx (x0 :: x1 :: x2 :: x3 :: x4 :: x5 :: x6 :: x7 :: x8 :: x9 :: x10 :: x11 :: x12 :: x13 :: x14 :: x15 :: x16 :: x17 :: x18 :: x19 :: x20 :: some z :: l) S2) fun x S1 => ex x (x0 :: x1 :: x2 :: x3 :: x4 :: x5 :: x6 :: x7 :: x8 :: x9 :: x10 :: x11 :: x12 :: x13 :: x14 :: x15 :: x16 :: x17 :: x18 :: x19 :: x20 :: some d :: l) S1) : sAug 21 te f (x0 :: x1 :: x2 :: x3 :: x4 :: x5 :: x6 :: x7 :: x8 :: x9 :: x10 :: x11 :: x12 :: x13 :: x14 :: x15 :: x16 :: x17 :: x18 :: x19 :: x20 :: some d :: l) S ⟨nx, rt, bk, ct, ex⟩ := k
theorem vr22 {x0 x1 x2 x3 x4 x5 x6 x7 x8 x9 x10 x11 x12 x13 x14 x15 x16 x17 x18 x19 x20 x21 : Option D} {l : Ev} {d : D} {S : Sto} {Q : DK} {E : EK} (k : Q d S) : vr 22 (x0 :: x1 :: x2 :: x3 :: x4 :: x5 :: x6 :: x7 :: x8 :: x9 :: x10 :: x11 :: x12 :: x13 :: x14 :: x15 :: x16 :: x17 :: x18 :: x19 :: x20 :: x21 :: some d :: l) S Q E := k
theorem set22 {x0 x1 x2 x3 x4 x5 x6 x7 x8 x9 x10 x11 x12 x13 x14 x15 x16 x17 x18 x19 x20 x21 : Option D} {y : Option D} {l : Ev} {d : D} {S : Sto} {nx : Ev → Sto → Prop} (k : nx (x0 :: x1 :: x2 :: x3 :: x4 :: x5 :: x6 :: x7 :: x8 :: x9 :: x10 :: x11 :: x12 :: x13 :: x14 :: x15 :: x16 :: x17 :: x18 :: x19 :: x20 :: x21 :: some d :: l) S) : asgK S (.nm 22) d (x0 :: x1 :: x2 :: x3 :: x4 :: x5 :: x6 :: x7 :: x8 :: x9 :: x10 :: x11 :: x12 :: x13 :: x14 :: x15 :: x16 :: x17 :: x18 :: x19 :: x20 :: x21 :: y :: l) nx := k
theorem uns22 {x0 x1 x2 x3 x4 x5 x6 x7 x8 x9 x10 x11 x12 x13 x14 x15 x16 x17 x18 x19 x20 x21 : Option D} {y : Option D} {l : Ev} {k : Ev → Prop} (h : k (x0 :: x1 :: x2 :: x3 :: x4 :: x5 :: x6 :: x7 :: x8 :: x9 :: x10 :: x11 :: x12 :: x13 :: x14 :: x15 :: x16 :: x17 :: x18 :: x19 :: x20 :: x21 :: none :: l)) : unsK 22 (x0 :: x1 :: x2 :: x3 :: x4 :: x5 :: x6 :: x7 :: x8 :: x9 :: x10 :: x11 :: x12 :: x13 :: x14 :: x15 :: x16 :: x17 :: x18 :: x19 :: x20 :: x21 :: y :: l) k := h
theorem aug22 {x0 x1 x2 x3 x4 x5 x6 x7 x8 x9 x10 x11 x12 x13 x14 x15 x16 x17 x18 x19 x20 x21 : Option D} {l : Ev} {d : D} {S : Sto} {te : TEd} {f : F2} {nx bk ct : Ev → Sto → Prop} {rt : DK} {ex : Xc → Ev → Sto → Prop} (k : te (x0 :: x1 :: x2 :: x3 :: x4 :: x5 :: x6 :: x7 :: x8 :: x9 :: x10 :: x11 :: x12 :: x13 :: x14 :: x15 :: x16 :: x17 :: x18 :: x19 :: x20 :: x21 :: some d :: l) S (fun y S1 => f d y S1 fun z S2 => nx (x0 :: x1 :: x2 :: x3 :: x4 :: x5 :: x6 :: x7 :: x8 :: x9 :: x10 :: x11 :: x12 :: x13 :: x14 :: x15 :: x16 :: x17 :: x18 :: x19 :: x20 :: x21 :: some z :: l) S2) fun x S1 => ex x (x0 :: x1 :: x2 :: x3 :: x4 :: x5 :: x6 :: x7 :: x8 :: x9 :: x10 :: x11 :: x12 :: x13 :: x14 :: x15 :: x16 :: x17 :: x18 :: x19 :: x20 :: x21 :: some d :: l) S1) : sAug 22 te f (x0 :: x1 :: x2 :: x3 :: x4 :: x5 :: x6 :: x7 :: x8 :: x9 :: x10 :: x11 :: x12 :: x13 :: x14 :: x15 :: x16 :: x17 :: x18 :: x19 :: x20 :: x21 :: some d :: l) S ⟨nx, rt, bk, ct, ex⟩ := k
theorem vr23 {x0 x1 x2 x3 x4 x5 x6 x7 x8 x9 x10 x11 x12 x13 x14 x15 x16 x17 x18 x19 x20 x21 x22 : Option D} {l : Ev} {d : D} {S : Sto} {Q : DK} {E : EK} (k : Q d S) : vr 23 (x0 :: x1 :: x2 :: x3 :: x4 :: x5 :: x6 :: x7 :: x8 :: x9 :: x10 :: x11 :: x12 :: x13 :: x14 :: x15 :: x16 :: x17 :: x18 :: x19 :: x20 :: x21 :: x22 :: some d :: l) S Q E := k
theorem set23 {x0 x1 x2 x3 x4 x5 x6 x7 x8 x9 x10 x11 x12 x13 x14 x15 x16 x17 x18 x19 x20 x21 x22 : Option D} {y : Option D} {l : Ev} {d : D} {S : Sto} {nx : Ev → Sto → Prop} (k : nx (x0 :: x1 :: x2 :: x3 :: x4 :: x5 :: x6 :: x7 :: x8 :: x9 :: x10 :: x11 :: x12 :: x13 :: x14 :: x15 :: x16 :: x17 :: x18 :: x19 :: x20 :: x21 :: x22 :: some d :: l) S) : asgK S (.nm 23) d (x0 :: x1 :: x2 :: x3 :: x4 :: x5 :: x6 :: x7 :: x8 :: x9 :: x10 :: x11 :: x12 :: x13 :: x14 :: x15 :: x16 :: x17 :: x18 :: x19 :: x20 :: x21 :: x22 :: y :: l) nx := k
theorem uns23 {x0 x1 x2 x3 x4 x5 x6 x7 x8 x9 x10 x11 x12 x13 x14 x15 x16 x17 x18 x19 x20 x21 x22 : Option D} {y : Option D} {l : Ev} {k : Ev → Prop} (h : k (x0 :: x1 :: x2 :: x3 :: x4 :: x5 :: x6 :: x7 :: x8 :: x9 :: x10 :: x11 :: x12 :: x13 :: x14 :: x15 :: x16 :: x17 :: x18 :: x19 :: x20 :: x21 :: x22 :: none :: l)) : unsK 23 (x0 :: x1 :: x2 :: x3 :: x4 :: x5 :: x6 :: x7 :: x8 :: x9 :: x10 :: x11 :: x12 :: x13 :: x14 :: x15 :: x16 :: x17 :: x18 :: x19 :: x20 :: x21 :: x22 :: y :: l) k := h
theorem aug23 {x0 x1 x2 x3 x4 x5 x6 x7 x8 x9 x10 x11 x12 x13 x14 x15 x16 x17 x18 x19 x20 x21 x22 : Option D} {l : Ev} {d : D} {S : Sto} {te : TEd} {f : F2} {nx bk ct : Ev → Sto → Prop} {rt : DK} {ex : Xc → Ev → Sto → Prop} (k : te (x0 :: x1 :: x2 :: x3 :: x4 :: x5 :: x6 :: x7 :: x8 :: x9 :: x10 :: x11 :: x12 :: x13 :: x14 :: x15 :: x16 :: x17 :: x18 :: x19 :: x20 :: x21 :: x22 :: some d :: l) S (fun y S1 => f d y S1 fun z S2 => nx (x0 :: x1 :: x2 :: x3 :: x4 :: x5 :: x6 :: x7 :: x8 :: x9 :: x10 :: x11 :: x12 :: x13 :: x14 :: x15 :: x16 :: x17 :: x18 :: x19 :: x20 :: x21 :: x22 :: some z :: l) S2) fun x S1 => ex x (x0 :: x1 :: x2 :: x3 :: x4 :: x5 :: x6 :: x7 :: x8 :: x9 :: x10 :: x11 :: x12 :: x13 :: x14 :: x15 :: x16 :: x17 :: x18 :: x19 :: x20 :: x21 :: x22 :: some d :: l) S1) : sAug 23 te f (x0 :: x1 :: x2 :: x3 :: x4 :: x5 :: x6 :: x7 :: x8 :: x9 :: x10 :: x11 :: x12 :: x13 :: x14 :: x15 :: x16 :: x17 :: x18 :: x19 :: x20 :: x21 :: x22 :: some d :: l) S ⟨nx, rt, bk, ct, ex⟩ := k
theorem ixT0 {ds : List D} {d : D} {S : Sto} {Q : DK} (k : Q d S) : fIx (.tup (d :: ds)) (.int 0) S Q := ixT (atI_nat (j := 0) rfl) k
theorem ixL0 {ds : List D} {d : D} {S : Sto} {Q : DK} (k : Q d S) : fIx (.lst (d :: ds)) (.int 0) S Q := ixL (atI_nat (j := 0) rfl) k
theorem ixT1 {x0 : D} {ds : List D} {d : D} {S : Sto} {Q : DK} (k : Q d S) : fIx (.tup (x0 :: d :: ds)) (.int 1) S Q := ixT (atI_nat (j := 1) rfl) k
theorem ixL1 {x0 : D} {ds : List D} {d : D} {S : Sto} {Q : DK} (k : Q d S) : fIx (.lst (x0 :: d :: ds)) (.int 1) S Q := ixL (atI_nat (j := 1) rfl) k
theorem ixT2 {x0 x1 : D} {ds : List D} {d : D} {S : Sto} {Q : DK} (k : Q d S) : fIx (.tup (x0 :: x1 :: d :: ds)) (.int 2) S Q := ixT (atI_nat (j := 2) rfl) k
theorem ixL2 {x0 x1 : D} {ds : List D} {d : D} {S : Sto} {Q : DK} (k : Q d S) : fIx (.lst (x0 :: x1 :: d :: ds)) (.int 2) S Q := ixL (atI_nat (j := 2) rfl) k
theorem ixT3 {x0 x1 x2 : D} {ds : List D} {d : D} {S : Sto} {Q : DK} (k : Q d S) : fIx (.tup (x0 :: x1 :: x2 :: d :: ds)) (.int 3) S Q := ixT (atI_nat (j := 3) rfl) k
theorem ixL3 {x0 x1 x2 : D} {ds : List D} {d : D} {S : Sto} {Q : DK} (k : Q d S) : fIx (.lst (x0 :: x1 :: x2 :: d :: ds)) (.int 3) S Q := ixL (atI_nat (j := 3) rfl) k
theorem ixT4 {x0 x1 x2 x3 : D} {ds : List D} {d : D} {S : Sto} {Q : DK} (k : Q d S) : fIx (.tup (x0 :: x1 :: x2 :: x3 :: d :: ds)) (.int 4) S Q := ixT (atI_nat (j := 4) rfl) k
theorem ixL4 {x0 x1 x2 x3 : D} {ds : List D} {d : D} {S : Sto} {Q : DK} (k : Q d S) : fIx (.lst (x0 :: x1 :: x2 :: x3 :: d :: ds)) (.int 4) S Q := ixL (atI_nat (j := 4) rfl) k
theorem ixT5 {x0 x1 x2 x3 x4 : D} {ds : List D} {d : D} {S : Sto} {Q : DK} (k : Q d S) : fIx (.tup (x0 :: x1 :: x2 :: x3 :: x4 :: d :: ds)) (.int 5) S Q := ixT (atI_nat (j := 5) rfl) k
theorem ixL5 {x0 x1 x2 x3 x4 : D} {ds : List D} {d : D} {S : Sto} {Q : DK} (k : Q d S) : fIx (.lst (x0 :: x1 :: x2 :: x3 :: x4 :: d :: ds)) (.int 5) S Q := ixL (atI_nat (j := 5) rfl) k
theorem ixT6 {x0 x1 x2 x3 x4 x5 : D} {ds : List D} {d : D} {S : Sto} {Q : DK} (k : Q d S) : fIx (.tup (x0 :: x1 :: x2 :: x3 :: x4 :: x5 :: d :: ds)) (.int 6) S Q := ixT (atI_nat (j := 6) rfl) k
theorem ixL6 {x0 x1 x2 x3 x4 x5 : D} {ds : List D} {d : D} {S : Sto} {Q : DK} (k : Q d S) : fIx (.lst (x0 :: x1 :: x2 :: x3 :: x4 :: x5 :: d :: ds)) (.int 6) S Q := ixL (atI_nat (j := 6) rfl) k
theorem ixT7 {x0 x1 x2 x3 x4 x5 x6 : D} {ds : List D} {d : D} {S : Sto} {Q : DK} (k : Q d S) : fIx (.tup (x0 :: x1 :: x2 :: x3 :: x4 :: x5 :: x6 :: d :: ds)) (.int 7) S Q := ixT (atI_nat (j := 7) rfl) k
theorem ixL7 {x0 x1 x2 x3 x4 x5 x6 : D} {ds : List D} {d : D} {S : Sto} {Q : DK} (k : Q d S) : fIx (.lst (x0 :: x1 :: x2 :: x3 :: x4 :: x5 :: x6 :: d :: ds)) (.int 7) S Q := ixL (atI_nat (j := 7) rfl) k
theorem startup0 {r : List D} {gs : List Tg} {env : Ev} {S : Sto} {nx : Ev → Sto → Prop} (k : asgLK S gs [.lst r] env nx) : starK 0 0 gs (.tup (r)) env S nx := starG rfl (by simp) (by simp [starD]) k
theorem starlst0 {r : List D} {gs : List Tg} {env : Ev} {S : Sto} {nx : Ev → Sto → Prop} (k : asgLK S gs [.lst r] env nx) : starK 0 0 gs (.lst (r)) env S nx := starG rfl (by simp) (by simp [starD]) k
theorem startup1 {x0 : D} {r : List D} {gs : List Tg} {env : Ev} {S : Sto} {nx : Ev → Sto → Prop} (k : asgLK S gs [x0, .lst r] env nx) : starK 1 0 gs (.tup (x0 :: r)) env S nx := starG rfl (by simp) (by simp [starD]) k
theorem starlst1 {x0 : D} {r : List D} {gs : List Tg} {env : Ev} {S : Sto} {nx : Ev → Sto → Prop} (k : asgLK S gs [x0, .lst r] env nx) : starK 1 0 gs (.lst (x0 :: r)) env S nx := starG rfl (by simp) (by simp [starD]) k
theorem startup2 {x0 x1 : D} {r : List D} {gs : List Tg} {env : Ev} {S : Sto} {nx : Ev → Sto → Prop} (k : asgLK S gs [x0, x1, .lst r] env nx) : starK 2 0 gs (.tup (x0 :: x1 :: r)) env S nx := starG rfl (by simp) (by simp [starD]) k
theorem starlst2 {x0 x1 : D} {r : List D} {gs : List Tg} {env : Ev} {S : Sto} {nx : Ev → Sto → Prop} (k : asgLK S gs [x0, x1, .lst r] env nx) : starK 2 0 gs (.lst (x0 :: x1 :: r)) env S nx := starG rfl (by simp) (by simp [starD]) k
theorem startup3 {x0 x1 x2 : D} {r : List D} {gs : List Tg} {env : Ev} {S : Sto} {nx : Ev → Sto → Prop} (k : asgLK S gs [x0, x1, x2, .lst r] env nx) : starK 3 0 gs (.tup (x0 :: x1 :: x2 :: r)) env S nx := starG rfl (by simp) (by simp [starD]) k
theorem starlst3 {x0 x1 x2 : D} {r : List D} {gs : List Tg} {env : Ev} {S : Sto} {nx : Ev → Sto → Prop} (k : asgLK S gs [x0, x1, x2, .lst r] env nx) : starK 3 0 gs (.lst (x0 :: x1 :: x2 :: r)) env S nx := starG rfl (by simp) (by simp [starD]) k
theorem startup4 {x0 x1 x2 x3 : D} {r : List D} {gs : List Tg} {env : Ev} {S : Sto} {nx : Ev → Sto → Prop} (k : asgLK S gs [x0, x1, x2, x3, .lst r] env nx) : starK 4 0 gs (.tup (x0 :: x1 :: x2 :: x3 :: r)) env S nx := starG rfl (by simp) (by simp [starD]) k
theorem starlst4 {x0 x1 x2 x3 : D} {r : List D} {gs : List Tg} {env : Ev} {S : Sto} {nx : Ev → Sto → Prop} (k : asgLK S gs [x0, x1, x2, x3, .lst r] env nx) : starK 4 0 gs (.lst (x0 :: x1 :: x2 :: x3 :: r)) env S nx := starG rfl (by simp) (by simp [starD]) k
theorem entup0 {S : Sto} {Q : List D → Sto → Prop} (k : Q [] S) : enumK (.tup []) S Q := k
theorem enlst0 {S : Sto} {Q : List D → Sto → Prop} (k : Q [] S) : enumK (.lst []) S Q := k
theorem entup1 {x0 : D} {S : Sto} {Q : List D → Sto → Prop} (k : Q [.tup [.int 0, x0]] S) : enumK (.tup [x0]) S Q := k
theorem enlst1 {x0 : D} {S : Sto} {Q : List D → Sto → Prop} (k : Q [.tup [.int 0, x0]] S) : enumK (.lst [x0]) S Q := k
theorem entup2 {x0 x1 : D} {S : Sto} {Q : List D → Sto → Prop} (k : Q [.tup [.int 0, x0], .tup [.int 1, x1]] S) : enumK (.tup [x0, x1]) S Q := k
theorem enlst2 {x0 x1 : D} {S : Sto} {Q : List D → Sto → Prop} (k : Q [.tup [.int 0, x0], .tup [.int 1, x1]] S) : enumK (.lst [x0, x1]) S Q := k
theorem entup3 {x0 x1 x2 : D} {S : Sto} {Q : List D → Sto → Prop} (k : Q [.tup [.int 0, x0], .tup [.int 1, x1], .tup [.int 2, x2]] S) : enumK (.tup [x0, x1, x2]) S Q := k
theorem enlst3 {x0 x1 x2 : D} {S : Sto} {Q : List D → Sto → Prop} (k : Q [.tup [.int 0, x0], .tup [.int 1, x1], .tup [.int 2, x2]] S) : enumK (.lst [x0, x1, x2]) S Q := k
theorem entup4 {x0 x1 x2 x3 : D} {S : Sto} {Q : List D → Sto → Prop} (k : Q [.tup [.int 0, x0], .tup [.int 1, x1], .tup [.int 2, x2], .tup [.int 3, x3]] S) : enumK (.tup [x0, x1, x2, x3]) S Q := k
theorem enlst4 {x0 x1 x2 x3 : D} {S : Sto} {Q : List D → Sto → Prop} (k : Q [.tup [.int 0, x0], .tup [.int 1, x1], .tup [.int 2, x2], .tup [.int 3, x3]] S) : enumK (.lst [x0, x1, x2, x3]) S Q := k
theorem entup5 {x0 x1 x2 x3 x4 : D} {S : Sto} {Q : List D → Sto → Prop} (k : Q [.tup [.int 0, x0], .tup [.int 1, x1], .tup [.int 2, x2], .tup [.int 3, x3], .tup [.int 4, x4]] S) : enumK (.tup [x0, x1, x2, x3, x4]) S Q := k
theorem enlst5 {x0 x1 x2 x3 x4 : D} {S : Sto} {Q : List D → Sto → Prop} (k : Q [.tup [.int 0, x0], .tup [.int 1, x1], .tup [.int 2, x2], .tup [.int 3, x3], .tup [.int 4, x4]] S) : enumK (.lst [x0, x1, x2, x3, x4]) S Q := k
theorem entup6 {x0 x1 x2 x3 x4 x5 : D} {S : Sto} {Q : List D → Sto → Prop} (k : Q [.tup [.int 0, x0], .tup [.int 1, x1], .tup [.int 2, x2], .tup [.int 3, x3], .tup [.int 4, x4], .tup [.int 5, x5]] S) : enumK (.tup [x0, x1, x2, x3, x4, x5]) S Q := k
theorem enlst6 {x0 x1 x2 x3 x4 x5 : D} {S : Sto} {Q : List D → Sto → Prop} (k : Q [.tup [.int 0, x0], .tup [.int 1, x1], .tup [.int 2, x2], .tup [.int 3, x3], .tup [.int 4, x4], .tup [.int 5, x5]] S) : enumK (.lst [x0, x1, x2, x3, x4, x5]) S Q := k
theorem slfT1 {x0 : D} {r : List D} {S : Sto} {Q : DK} (k : Q (.tup r) S) : fSl (.tup (x0 :: r)) (some 1) none S Q := slT (by unfold Bl.cutD HT.sIx; simp) k
theorem sltT1 {x0 : D} {r : List D} {S : Sto} {Q : DK} (k : Q (.tup [x0]) S) : fSl (.tup (x0 :: r)) none (some 1) S Q := slT (by unfold Bl.cutD HT.sIx; simp) k
theorem slfT2 {x0 x1 : D} {r : List D} {S : Sto} {Q : DK} (k : Q (.tup r) S) : fSl (.tup (x0 :: x1 :: r)) (some 2) none S Q := slT (by unfold Bl.cutD HT.sIx; simp) k
theorem sltT2 {x0 x1 : D} {r : List D} {S : Sto} {Q : DK} (k : Q (.tup [x0, x1]) S) : fSl (.tup (x0 :: x1 :: r)) none (some 2) S Q := slT (by unfold Bl.cutD HT.sIx; simp) k
theorem slfT3 {x0 x1 x2 : D} {r : List D} {S : Sto} {Q : DK} (k : Q (.tup r) S) : fSl (.tup (x0 :: x1 :: x2 :: r)) (some 3) none S Q := slT (by unfold Bl.cutD HT.sIx; simp) k
theorem sltT3 {x0 x1 x2 : D} {r : List D} {S : Sto} {Q : DK} (k : Q (.tup [x0, x1, x2]) S) : fSl (.tup (x0 :: x1 :: x2 :: r)) none (some 3) S Q := slT (by unfold Bl.cutD HT.sIx; simp) k
theorem slfT4 {x0 x1 x2 x3 : D} {r : List D} {S : Sto} {Q : DK} (k : Q (.tup r) S) : fSl (.tup (x0 :: x1 :: x2 :: x3 :: r)) (some 4) none S Q := slT (by unfold Bl.cutD HT.sIx; simp) k
theorem sltT4 {x0 x1 x2 x3 : D} {r : List D} {S : Sto} {Q : DK} (k : Q (.tup [x0, x1, x2, x3]) S) : fSl (.tup (x0 :: x1 :: x2 :: x3 :: r)) none (some 4) S Q := slT (by unfold Bl.cutD HT.sIx; simp) k
theorem slfL1 {x0 : D} {r : List D} {S : Sto} {Q : DK} (k : Q (.lst r) S) : fSl (.lst (x0 :: r)) (some 1) none S Q := slL (by unfold Bl.cutD HT.sIx; simp) k
theorem sltL1 {x0 : D} {r : List D} {S : Sto} {Q : DK} (k : Q (.lst [x0]) S) : fSl (.lst (x0 :: r)) none (some 1) S Q := slL (by unfold Bl.cutD HT.sIx; simp) k
theorem slfL2 {x0 x1 : D} {r : List D} {S : Sto} {Q : DK} (k : Q (.lst r) S) : fSl (.lst (x0 :: x1 :: r)) (some 2) none S Q := slL (by unfold Bl.cutD HT.sIx; simp) k
theorem sltL2 {x0 x1 : D} {r : List D} {S : Sto} {Q : DK} (k : Q (.lst [x0, x1]) S) : fSl (.lst (x0 :: x1 :: r)) none (some 2) S Q := slL (by unfold Bl.cutD HT.sIx; simp) k
theorem slfL3 {x0 x1 x2 : D} {r : List D} {S : Sto} {Q : DK} (k : Q (.lst r) S) : fSl (.lst (x0 :: x1 :: x2 :: r)) (some 3) none S Q := slL (by unfold Bl.cutD HT.sIx; simp) k
theorem sltL3 {x0 x1 x2 : D} {r : List D} {S : Sto} {Q : DK} (k : Q (.lst [x0, x1, x2]) S) : fSl (.lst (x0 :: x1 :: x2 :: r)) none (some 3) S Q := slL (by unfold Bl.cutD HT.sIx; simp) k
theorem slfL4 {x0 x1 x2 x3 : D} {r : List D} {S : Sto} {Q : DK} (k : Q (.lst r) S) : fSl (.lst (x0 :: x1 :: x2 :: x3 :: r)) (some 4) none S Q := slL (by unfold Bl.cutD HT.sIx; simp) k
theorem sltL4 {x0 x1 x2 x3 : D} {r : List D} {S : Sto} {Q : DK} (k : Q (.lst [x0, x1, x2, x3]) S) : fSl (.lst (x0 :: x1 :: x2 :: x3 :: r)) none (some 4) S Q := slL (by unfold Bl.cutD HT.sIx; simp) k
theorem startup_2 {x0 x1 : D} {gs : List Tg} {env : Ev} {S : Sto} {nx : Ev → Sto → Prop} (k : asgLK S gs [.lst [], x0, x1] env nx) : starK 0 2 gs (.tup [x0, x1]) env S nx := starG rfl (by simp) rfl k
theorem starlst_2 {x0 x1 : D} {gs : List Tg} {env : Ev} {S : Sto} {nx : Ev → Sto → Prop} (k : asgLK S gs [.lst [], x0, x1] env nx) : starK 0 2 gs (.lst [x0, x1]) env S nx := starG rfl (by simp) rfl k
theorem startup_3 {x0 x1 x2 : D} {gs : List Tg} {env : Ev} {S : Sto} {nx : Ev → Sto → Prop} (k : asgLK S gs [.lst [x0], x1, x2] env nx) : starK 0 2 gs (.tup [x0, x1, x2]) env S nx := starG rfl (by simp) rfl k
theorem starlst_3 {x0 x1 x2 : D} {gs : List Tg} {env : Ev} {S : Sto} {nx : Ev → Sto → Prop} (k : asgLK S gs [.lst [x0], x1, x2] env nx) : starK 0 2 gs (.lst [x0, x1, x2]) env S nx := starG rfl (by simp) rfl k
theorem startup_4 {x0 x1 x2 x3 : D} {gs : List Tg} {env : Ev} {S : Sto} {nx : Ev → Sto → Prop} (k : asgLK S gs [.lst [x0, x1], x2, x3] env nx) : starK 0 2 gs (.tup [x0, x1, x2, x3]) env S nx := starG rfl (by simp) rfl k
theorem starlst_4 {x0 x1 x2 x3 : D} {gs : List Tg} {env : Ev} {S : Sto} {nx : Ev → Sto → Prop} (k : asgLK S gs [.lst [x0, x1], x2, x3] env nx) : starK 0 2 gs (.lst [x0, x1, x2, x3]) env S nx := starG rfl (by simp) rfl k
end Go

/-! texts: methods of a text and a text -/
namespace Bl
open PySem PySem.Spec PyProof.Rows L2
def isTx (x : D) : Prop := ∃ a, x = .str a
def dMt (f : F2) (to te : TEd) : TEd := fun env S Q E => to env S (fun x S1 => isTx x ∧ te env S1 (fun y S2 => f x y S2 Q) E) E
theorem moMt {f : F2} {to te : TEd} (hf : MoF2 f) (ho : MoE to) (he : MoE te) : MoE (dMt f to te) := fun env S Q Q' E E' hq hE q => ho _ _ _ _ _ _ (fun x S1 z => ⟨z.1, he _ _ _ _ _ _ (fun y S2 u => hf _ _ _ _ _ hq u) hE z.2⟩) hE q
def fSw : F2 := fun x y S Q => match x, y with
  | .str a, .str b => Q (.bl (Txt.startswith a b)) S
  | _, _ => False
theorem moSw : MoF2 fSw := by (intro x y S Q Q' h q; unfold fSw at q ⊢; split at q <;> first | exact h _ _ q | exact ⟨q.1, h _ _ q.2⟩ | exact ⟨q.1, q.2.1, h _ _ q.2.2⟩ | exact q.elim)
section
variable {X : Cx} {W : WX} {o e : Expr} {to te : TEd} {apos pos : Pos}
theorem je_startswith (ho : JE X W o to) (he : JE X W e te) (hs : starEach [e] X.env = [(false, eval e X.env)] := by rfl) (hbase : attributeBase o "startswith" X.env (eval o X.env) = eval o X.env := by rfl) (hline : (apos.endLine == pos.line) = true := by rfl) :
    JE X W (.Call (.Attribute o "startswith" apos) [e] [] pos) (dMt fSw to te) := by
  refine ⟨PE.imp (pe_m1 F.slot_str_startswith F.type_str_startswith mt_startswith ho.pe he.pe hs hbase hline) fun σ H Q h => ?_, moMt moSw ho.mo he.mo⟩
  obtain ⟨Z, env, S, re, rs, q⟩ := h
  refine LE.of ho.mo re rs q (fun d S1 v H1 q1 a1 r1 => ?_) fun x S1 c dx H1 q1 a1 r1 => q1 c dx H1 a1 r1
  obtain ⟨⟨a, rfl⟩, q1⟩ := q1
  cases r1
  refine ⟨⟨a, rfl⟩, LE.of he.mo (re.step a1.st rs) a1.rs q1 (fun d2 S2 v2 H2 q2 a2 r2 => ?_) fun x S2 c dx H2 q2 a2 r2 => q2 c dx H2 (a1.trans a2) r2⟩
  cases d2 <;> first | exact q2.elim | skip
  cases r2
  exact ⟨a, _, rfl, rfl, q2 _ H2 (a1.trans a2) (.bl _)⟩
end
theorem RpL.strs {K : Kz} {S : Sto} {H : Hp} : ∀ (ys : List Str), RpL K S H (ys.map D.str) (ys.map V.str)
  | [] => .nil
  | y :: ys => .cons (.str y) (RpL.strs ys)
theorem RpL.strs_eq {K : Kz} {S : Sto} {H : Hp} : ∀ {ys : List Str} {vs : List V}, RpL K S H (ys.map D.str) vs → vs = ys.map V.str
  | [], _, r => by cases r; rfl
  | y :: ys, _, r => by
    cases r with
    | cons r1 r2 =>
      cases r1
      rw [RpL.strs_eq r2]
      rfl
def fSplit : F2 := fun x y S Q => match x, y with
  | .str a, .str b => (b.length == 0) = false ∧ a.length + 2 ≤ sizeLine ∧ Q (.lst ((Txt.split a b).map D.str)) S
  | _, _ => False
theorem moSplit : MoF2 fSplit := fun x y S Q Q' h q => by
  unfold fSplit at q ⊢
  split at q <;> first | exact ⟨q.1, q.2.1, h _ _ q.2.2⟩ | exact q.elim
def fJoin : F2 := fun x y S Q => match x, y with
  | .str a, .lst ds => ∃ ys : List Str, ds = ys.map D.str ∧ (ys.map (·.length)).sum + ys.length * a.length ≤ 16777216 ∧ Q (.str (Txt.join a ys)) S
  | _, _ => False
theorem moJoin : MoF2 fJoin := fun x y S Q Q' h q => by
  unfold fJoin at q ⊢
  split at q
  · obtain ⟨ys, e, hz, q⟩ := q
    exact ⟨ys, e, hz, h _ _ q⟩
  · exact q.elim
section
variable {X : Cx} {W : WX} {o e : Expr} {to te : TEd} {apos pos : Pos}
theorem je_split (ho : JE X W o to) (he : JE X W e te) (hs : starEach [e] X.env = [(false, eval e X.env)] := by rfl) (hbase : attributeBase o "split" X.env (eval o X.env) = eval o X.env := by rfl) (hline : (apos.endLine == pos.line) = true := by rfl) :
    JE X W (.Call (.Attribute o "split" apos) [e] [] pos) (dMt fSplit to te) := by
  refine ⟨PE.imp (pe_split ho.pe he.pe hs hbase hline) fun σ H Q h => ?_, moMt moSplit ho.mo he.mo⟩
  obtain ⟨Z, env, S, re, rs, q⟩ := h
  refine LE.of ho.mo re rs q (fun d S1 v H1 q1 a1 r1 => ?_) fun x S1 c dx H1 q1 a1 r1 => q1 c dx H1 a1 r1
  obtain ⟨⟨a, rfl⟩, q1⟩ := q1
  cases r1
  refine ⟨⟨a, rfl⟩, LE.of he.mo (re.step a1.st rs) a1.rs q1 (fun d2 S2 v2 H2 q2 a2 r2 => ?_) fun x S2 c dx H2 q2 a2 r2 => q2 c dx H2 (a1.trans a2) r2⟩
  cases d2 <;> first | exact q2.elim | skip
  cases r2
  refine ⟨a, _, rfl, rfl, q2.1, q2.2.1, fun p hp => ?_⟩
  obtain ⟨a3, r3⟩ := Rp.newL a2.rs hp (RpL.strs _)
  exact q2.2.2 _ _ ((a1.trans a2).trans a3) r3
theorem je_join (ho : JE X W o to) (he : JE X W e te) (hs : starEach [e] X.env = [(false, eval e X.env)] := by rfl) (hbase : attributeBase o "join" X.env (eval o X.env) = eval o X.env := by rfl) (hline : (apos.endLine == pos.line) = true := by rfl) :
    JE X W (.Call (.Attribute o "join" apos) [e] [] pos) (dMt fJoin to te) := by
  refine ⟨PE.imp (pe_join ho.pe he.pe hs hbase hline) fun σ H Q h => ?_, moMt moJoin ho.mo he.mo⟩
  obtain ⟨Z, env, S, re, rs, q⟩ := h
  refine LE.of ho.mo re rs q (fun d S1 v H1 q1 a1 r1 => ?_) fun x S1 c dx H1 q1 a1 r1 => q1 c dx H1 a1 r1
  obtain ⟨⟨a, rfl⟩, q1⟩ := q1
  cases r1
  refine ⟨⟨a, rfl⟩, LE.of he.mo (re.step a1.st rs) a1.rs q1 (fun d2 S2 v2 H2 q2 a2 r2 => ?_) fun x S2 c dx H2 q2 a2 r2 => q2 c dx H2 (a1.trans a2) r2⟩
  cases d2 <;> first | exact q2.elim | skip
  obtain ⟨ys, rfl, hz, q2⟩ := q2
  obtain ⟨p, vs, rfl, hs2, hl⟩ := r2.sqL
  rw [RpL.strs_eq hl] at hs2
  exact ⟨a, p, ys, rfl, rfl, .inl hs2, hz, q2 _ H2 (a1.trans a2) (.str _)⟩
end
/-! int(text), str(whole number) -/
def bIntS : GB := fun ds S Q => match ds with
  | [.str a] => ∃ n, PySem.intText? a = some n ∧ a.length ≤ 640 ∧ Q (.int n) S
  | _ => False
theorem cd_intS {X : Cx} : CallD X (.type "int") bIntS := by
  refine ⟨fun ds S Q Q' h q => ?_, fun pins s σ H xs us Q I rv h => ?_⟩
  · unfold bIntS at q ⊢
    split at q
    · obtain ⟨n, e, hz, q⟩ := q
      exact ⟨n, e, hz, h _ _ q⟩
    · exact q.elim
  · obtain ⟨Z, S, ds, rs, r, q⟩ := h
    unfold bIntS at q
    split at q <;> first | exact q.elim | skip
    obtain ⟨v, rfl, r1⟩ := r.one
    cases r1
    obtain ⟨n, e, hz, q⟩ := q
    exact call_int_str pins s σ H _ us Q I rv ⟨_, n, rfl, e, hz, q _ H (.refl rs) (.int _)⟩
def bStrI : GB := fun ds S Q => match ds with
  | [.int i] => i.natAbs.log2 < 1920 ∧ Q (.str (toString i)) S
  | _ => False
theorem cd_strI {X : Cx} : CallD X (.type "str") bStrI := by
  refine ⟨fun ds S Q Q' h q => ?_, fun pins s σ H xs us Q I rv h => ?_⟩
  · unfold bStrI at q ⊢
    split at q
    · exact ⟨q.1, h _ _ q.2⟩
    · exact q.elim
  · obtain ⟨Z, S, ds, rs, r, q⟩ := h
    unfold bStrI at q
    split at q <;> first | exact q.elim | skip
    obtain ⟨v, rfl, r1⟩ := r.one
    cases r1
    obtain ⟨u, rfl, t, rfl⟩ := vals1 rv
    exact PySem.P.str_of_int q.1 ⟨.str _, H, I.tok _, ⟨_, rfl⟩, q.2 _ H (.refl rs) (.str _)⟩
/-! over a text: sign by sign -/
def sgn (x : Str) : List D := x.cps.toList.map fun c => D.str ⟨#[c]⟩
def iStrD (te : TEd) : TAd := fun env S Q E => te env S (fun d S1 => match d with
  | .str x => Q (sgn x) S1
  | _ => False) E
theorem moIStrD {te : TEd} (ht : MoE te) : MoE (iStrD te) := fun env S Q Q' E E' h he q => ht _ _ _ _ _ _ (fun d S1 q1 => by
  split at q1
  · exact h _ _ q1
  · exact q1) he q
theorem sgn_len (x : Str) : (sgn x).length = x.cps.size := by
  unfold sgn
  rw [List.length_map, Array.length_toList]
theorem wk_str {K : Kz} {S : Sto} {H : Hp} {x : Str} : WkD K S H (Its x) (sgn x) := by
  refine ⟨fun _ => True, fun i H' v H'' => H'' = H' ∧ ∃ c, x.cps[i]? = some c ∧ v = .str ⟨#[c]⟩, ?_, fun _ _ _ => trivial, fun K' i S' H' v H'' _ _ rs' _ hi y => ?_⟩
  · rw [sgn_len]
    exact walk_str
  · obtain ⟨rfl, c, hc, rfl⟩ := y
    refine ⟨.refl rs', .str ⟨#[c]⟩, ?_, .str _⟩
    unfold sgn
    rw [List.getElem?_map, Array.getElem?_toList, hc]
    rfl
section
variable {X : Cx} {W : WX}
theorem ji_str {tg e : Expr} {te : TEd} (he : JE X W e te) : JI X W tg e (iStrD te) := by
  refine ⟨PI.imp (pi_str he.pe) fun σ H R h => ?_, moIStrD he.mo⟩
  obtain ⟨Z, env, S, re, rs, q⟩ := h
  refine LE.of he.mo re rs q (fun d S1 v H1 q1 a1 r1 => ?_) fun x S1 c dx H1 q1 a1 r1 => q1 c dx H1 a1 r1
  split at q1 <;> first | exact q1.elim | skip
  cases r1
  exact ⟨_, rfl, q1 _ H1 a1 wk_str⟩
end
/-! f'..' -/
def dFmt (t : TEd) : TEd := fun env S Q E => t env S (fun d S1 => match d with
  | .str y => y.length ≤ sizeLine ∧ Q (.str y) S1
  | .int i => i.natAbs.log2 < 1920 ∧ Q (.str (toString i)) S1
  | _ => False) E
theorem moFmt {t : TEd} (ht : MoE t) : MoE (dFmt t) := fun env S Q Q' E E' h he q => ht _ _ _ _ _ _ (fun d S1 q1 => by
  split at q1
  · exact ⟨q1.1, h _ _ q1.2⟩
  · exact ⟨q1.1, h _ _ q1.2⟩
  · exact q1) he q
def dJs : List TEd → Str → Ev → Sto → (Str → Sto → Prop) → EK → Prop
  | [], acc, _, S, Q, _ => Q acc S
  | t :: ts, acc, env, S, Q, E => t env S (fun d S1 => match d with
    | .str y => (acc ++ y).length ≤ sizeLine ∧ dJs ts (acc ++ y) env S1 Q E
    | _ => False) E
def dJoined (ts : List TEd) : TEd := fun env S Q E => dJs ts Str.empty env S (fun out S1 => Q (.str out) S1) E
theorem moJs : ∀ {ts : List TEd}, (∀ t ∈ ts, MoE t) → ∀ {acc : Str} {env : Ev} {S : Sto} {Q Q' : Str → Sto → Prop} {E E' : EK}, (∀ o S, Q o S → Q' o S) → (∀ x S, E x S → E' x S) → dJs ts acc env S Q E → dJs ts acc env S Q' E'
  | [], _, _, _, _, _, _, _, _, h, _, q => h _ _ q
  | t :: ts, hm, _, _, _, _, _, _, _, h, he, q => hm t (List.mem_cons_self ..) _ _ _ _ _ _ (fun d S1 q1 => by
      split at q1
      · exact ⟨q1.1, moJs (fun u hu => hm u (List.mem_cons_of_mem _ hu)) h he q1.2⟩
      · exact q1) he q
theorem tJs_of {K : Kz} {W : WX} : ∀ {ts : List TEd}, (∀ t ∈ ts, MoE t) → ∀ {acc : Str} {env : Ev} {S : Sto} {H : Hp} {σ : L2.St} {C : Str → Sto → Prop} {E : EK} {R : Str → Hp → Prop}, RE K S H env σ → RS K S H → dJs ts acc env S C E →
    (∀ out S1 H1, C out S1 → Aft K S H S1 H1 → R out H1) → (∀ x S1 c dx H1, E x S1 → Aft K S H S1 H1 → RX K S1 H1 x c dx → W c dx σ H1) → tJs (ts.map (LE K.K W)) acc σ H R
  | [], _, _, _, _, _, _, _, _, _, _, rs, q, hc, _ => hc _ _ _ q (.refl rs)
  | t :: ts, hm, _, _, _, _, _, _, _, _, re, rs, q, hc, he => by
    refine LE.of (hm t (List.mem_cons_self ..)) re rs q (fun d S1 v H1 q1 a1 r1 => ?_) he
    split at q1 <;> first | exact q1.elim | skip
    cases r1
    exact ⟨_, rfl, q1.1, tJs_of (fun u hu => hm u (List.mem_cons_of_mem _ hu)) (re.step a1.st rs) a1.rs q1.2 (fun out S2 H2 z a2 => hc out S2 H2 z (a1.trans a2)) fun x S2 c dx H2 z a2 r => he x S2 c dx H2 z (a1.trans a2) r⟩
section
variable {X : Cx} {W : WX}
theorem je_fmt {e : Expr} {te : TEd} {pos : Pos} (he : JE X W e te) : JE X W (.FormattedValue e (-1) none pos) (dFmt te) := by
  refine ⟨PE.imp (pe_fmt he.pe) fun σ H Q h => ?_, moFmt he.mo⟩
  obtain ⟨Z, env, S, re, rs, q⟩ := h
  refine LE.of he.mo re rs q (fun d S1 v H1 q1 a1 r1 => ?_) fun x S1 c dx H1 q1 a1 r1 => q1 c dx H1 a1 r1
  split at q1 <;> first | exact q1.elim | skip
  · cases r1
    exact .inl ⟨_, rfl, q1.1, q1.2 _ H1 a1 (.str _)⟩
  · cases r1
    exact .inr ⟨_, rfl, q1.1, q1.2 _ H1 a1 (.str _)⟩
inductive JJ (X : Cx) (W : WX) : List Expr → List TEd → Prop where
  | nil : JJ X W [] []
  | cons {e : Expr} {t : TEd} {es : List Expr} {ts : List TEd} (h : JE X W e t) (r : JJ X W es ts) : JJ X W (e :: es) (t :: ts)
theorem JJ.pj {es : List Expr} {ts : List TEd} (h : JJ X W es ts) : PJ X es (ts.map (LE X.K W)) := by
  induction h with
  | nil => exact .nil
  | cons h _ ih => exact .cons h.pe ih
theorem JJ.mo {es : List Expr} {ts : List TEd} (h : JJ X W es ts) : ∀ t ∈ ts, MoE t := by
  induction h with
  | nil => exact fun _ h => nomatch h
  | cons h _ ih =>
    intro t ht
    rcases List.mem_cons.mp ht with rfl | ht
    · exact h.mo
    · exact ih t ht
theorem je_joined {v1 v2 : Expr} {rest : List Expr} {ts : List TEd} {pos : Pos} (h : JJ X W (v1 :: v2 :: rest) ts) : JE X W (.JoinedStr (v1 :: v2 :: rest) pos) (dJoined ts) := by
  refine ⟨PE.imp (pe_joined h.pj) fun σ H Q q => ?_, fun env S Q Q' E E' hq he q => moJs h.mo (fun o S z => hq _ _ z) he q⟩
  obtain ⟨Z, env, S, re, rs, q⟩ := q
  exact tJs_of (K := ⟨X.K, Z⟩) h.mo re rs q (fun out S1 H1 z a => z _ H1 a (.str _)) fun x S1 c dx H1 z a r => z c dx H1 a r
end
end Bl

namespace Bl
open PySem PySem.Spec PyProof.Rows L2
/-! text * 0, text * 1 -/
def fMulS : F2 := fun x y S Q => match x, y with
  | .str a, .int n => (n = 0 ∨ n = 1) ∧ Q (.str (if n = 0 then Str.empty else a)) S
  | _, _ => False
theorem moMulS : MoF2 fMulS := fun x y S Q Q' h q => by
  unfold fMulS at q ⊢
  split at q <;> first | exact ⟨q.1, h _ _ q.2⟩ | exact q.elim
theorem opD_mulS {X : Cx} : OpD X (binaryOp .Mult) fMulS := by
  refine ⟨moMulS, fun pins s σ H x y v u Q Z S dx dy I rx ry rs r1 r2 h => ?_⟩
  unfold fMulS at h
  split at h <;> first | exact h.elim | skip
  cases r1; cases r2
  obtain ⟨t, rfl⟩ := rx
  obtain ⟨t', rfl⟩ := ry
  obtain ⟨hn, q⟩ := h
  rcases hn with rfl | rfl
  · exact PySem.P.mul_str_none (by decide) (by decide) ⟨.str Str.empty, H, I.tok _, ⟨_, rfl⟩, q _ H (.refl rs) (.str _)⟩
  · refine PySem.P.mul_str (by decide) (fun _ e => ?_) (fun _ e => ?_) ?_
    · simp at e
    · simp at e
    · exact ⟨.str _, H, I, ⟨_, rfl⟩, q _ H (.refl rs) (.str _)⟩
/-! a def handed as an argument: its address is one thing more that the texts know -/
class FnA where
  rr : Addr
def dGl [FnA] : TEd := fun _ S Q _ => Q (.obj FnA.rr) S
theorem moGl [FnA] : MoE dGl := fun env S Q Q' E E' h _ q => h _ _ q
def dCallS [FnA] (i : Nat) (m : TFd) (np : Nat) (gD : List D → List D → List D) (ta : TAd) : TEd := fun env S Q E => env[i]? = some (some (.obj FnA.rr)) ∧ ta env S (fun ds S1 => ds.length = np ∧ ([] : List D).length = 0 ∧ m (gD ds []) S1 Q E) E
theorem moCallS [FnA] {i : Nat} {m : TFd} {np : Nat} {gD : List D → List D → List D} {ta : TAd} (hm : MoF m) (ha : MoE ta) : MoE (dCallS i m np gD ta) := fun env S Q Q' E E' h he q =>
  ⟨q.1, ha _ _ _ _ _ _ (fun ds S1 q1 => ⟨q1.1, q1.2.1, hm _ _ _ _ _ _ h he q1.2.2⟩) he q.2⟩
section
variable {P : Program} {w : World} {K : PySem.W.Frag} {mg : Str → Option Value} {base : Heap} {N : List Str} {sc : Scope} {vw : Vw} {k j : Nat} {X : Cx} {W : WX} {x y : Str} {p pos : Pos} {e : Expr} {es : List Expr} {u : TAd} {np : Nat} {gD : List D → List D → List D} {m : TFd}
theorem je_gl [FnA] (c : JC P w K mg base N sc vw k X W) (hx : x ∈ vw.gs) (hm : mg x = some (.ref FnA.rr)) : JE X W (.Name x pos) dGl := by
  refine ⟨PE.imp (pe_glob (v := .ref FnA.rr) (c.gl hx) (by rw [c.gg]; exact hm) rfl (c.sC.gl x hx).2.2) fun σ H Q h => ?_, moGl⟩
  obtain ⟨Z, env, S, re, rs, q⟩ := h
  exact q _ H (.refl rs) (.obj _)
theorem je_callS [FnA] (c : JC P w K mg base N sc vw k X W) (i : Nat) (hi : i ∈ vw.vl) (hN : N[i]? = some y) (F : JF P w K mg base x np [] gD j m) (hmx : mg x = some (.ref FnA.rr)) (hj : j ≤ k) (ha : JA X W (e :: es) u) (he : starEach (e :: es) X.env = (false, eval e X.env) :: starEach es X.env := by rfl)
    (hpl : (backTo pos (starEach es X.env)).any (·.1) = false := by rfl) : JE X W (.Call (.Name y p) (e :: es) [] pos) (dCallS i m np gD u) := by
  obtain ⟨rfl, rfl, rfl, rfl, rfl, rfl, rfl⟩ : X.prog = P ∧ X.w = w ∧ X.K = K ∧ X.mg = mg ∧ X.base = base ∧ X.N = N ∧ X.env.scope = sc := ⟨c.prog, c.ww, c.kk, c.gg, c.bb, c.nn, c.ss⟩
  obtain ⟨f, fd, ps, g, gV, hm, hkp, FF, hb, rel⟩ := F.ex
  rw [hmx] at hm
  cases hm
  obtain ⟨v1, v2, v3⟩ := c.sC.vis i hi y hN
  refine ⟨⟨fun pins s σ H Q I h => ?_⟩, moCallS F.mo ha.mo⟩
  obtain ⟨Z, env, S, re, rs, q0, q⟩ := h
  obtain ⟨v, es1, r0⟩ := re.at_ i _ q0
  cases r0
  refine wpAny_Call_Name_kw (thn ((pe_var (pos := p) (i := i) hN v1 v2 v3).run pins s σ H (fun v H1 => v = .ref FnA.rr ∧ H1 = H) I ⟨.ref FnA.rr, es1, rfl, rfl⟩) fun u0 s1 ⟨v, H1, I1, ru, e0, eH⟩ => ?_)
  subst e0
  rw [eH] at I1
  cases ru
  refine PySem.W.callWith_K (h₀ := X.base) I.ok.mod.kin hkp (thn (ha.pa.run pos pins s1 σ H _ I1 (LA.of ha.mo re rs q (R := fun vs H1 => ∃ ds S1, Aft ⟨X.K, Z⟩ S H S1 H1 ∧ RpL ⟨X.K, Z⟩ S1 H1 ds vs ∧ ds.length = np ∧ ([] : List D).length = 0 ∧ m (gD ds []) S1 _ _) (fun ds S1 vs H1 q1 a1 r1 => ⟨ds, S1, a1, r1, q1⟩) fun x S1 c dx H1 q1 a1 r1 => q1 c dx H1 a1 r1)) fun us s2 ⟨vs, H2, I2, r, ds, S1, a1, r1, l1, l2, q1⟩ => ⟨I2.kIn, ?_⟩) he hpl
  obtain ⟨rr, ll⟩ := rel Z S1 H2 ds [] vs [] r1 .nil l1 rfl
  exact run_fnG (ws := []) (zs := []) FF (c.room.mono hj) hb (passAt c.tk σ) I2 r .nil (by rw [← r1.length]; exact l1) rfl (call_sp F.mo a1 rr ll q1)
end
/-- what the top tells, which def the address is, constant texts -/
structure TpF [FnA] (nm : Str) (fa : List He.Fa) (fn : List He.DefD) (bx : PySem.W.Frag → Bool) (ts : List He.Tab) (w : World) (K : PySem.W.Frag) (mg : Str → Option Value) : Prop extends TpW fa fn bx ts w K mg where
  fnA : FnA.rr = He.ga K nm
  st : ∀ (x z : Str), (He.Fa.str x z).ok K = true → ∃ t, mg x = some (.str z t)
theorem TpF.str [FnA] {nm : Str} {fa : List He.Fa} {fn : List He.DefD} {bx : PySem.W.Frag → Bool} {ts : List He.Tab} {w : World} {K : PySem.W.Frag} {mg : Str → Option Value} (T : TpF nm fa fn bx ts w K mg) (i : Nat) {x z : Str} (h : fa[i]? = some (.str x z) := by rfl) : ∃ t, mg x = some (.str z t) := T.st x z (T.sy.fact i h)
theorem TpF.mk' {nm : Str} {fa : List He.Fa} {fn : List He.DefD} {bx : PySem.W.Frag → Bool} {ts : List He.Tab} {w : World} {K : PySem.W.Frag} {mg : Str → Option Value} {h : Heap} (X : K.In h) (G : h.Ns mainGlobals mg) (c : He.SaysT fa fn ts w K ∧ bx K = true) : @TpF ⟨He.ga K nm⟩ nm fa fn bx ts w K mg :=
  @TpF.mk ⟨He.ga K nm⟩ nm fa fn bx ts w K mg (TpW.mk' X G c) rfl fun _ _ q => He.str_ok X G q
theorem gc_str {K : PySem.W.Frag} {mg : Str → Option Value} {x z : Str} (h : ∃ t, mg x = some (.str z t)) : GC K mg x (.str z) := by
  obtain ⟨t, h⟩ := h
  exact ⟨_, .str z, h, ⟨t, rfl⟩, fun Z S H => .str z⟩
theorem bStrI_mo (ds : List D) (S : Sto) (Q Q' : DK) (h : ∀ d S, Q d S → Q' d S) (q : bStrI ds S Q) : bStrI ds S Q' := by
  unfold bStrI at q ⊢
  split at q
  · exact ⟨q.1, h _ _ q.2⟩
  · exact q.elim
end Bl

/-! list + list, whatever kind of list -/
namespace PySem.AutoSeq1
theorem list_add_any (l : Addr) (items : Array Value) (n : Nat) (b : Addr) (items2 : Array Value) (n2 : Nat) (s1 s2 : Array (Option Value)) (hc0 : items.size + items2.size ≤ sizeLine) :
    Meets (Builtin.«list.__add__» ⟨[.ref l, .ref b], []⟩) (fun _ R s => s.heap.get? l = some { cls := .type "list", dict := none, data := .seq items n, slots := s1 } ∧ s.heap.get? b = some { cls := .type "list", dict := none, data := .seq items2 n2, slots := s2 } ∧ R (.ok (.ret (Value.ref s.heap.objs.size))) { s with heap := s.heap.push { cls := Value.type "list", data := Data.seq (items ++ items2) }, toks := s.toks }) :=
  .of_wp fun prog w A R s h => by obtain ⟨hp, g, d, tk, os⟩ := s; obtain ⟨hl, hb, h⟩ := h; have f1 := idx_int; have f2 := sub_tuple_tuple; have f3 := sub_list_list; have f4 := sub_tuple_list; have f5 := sub_list_tuple; wp_walk using wpAny_loadPart' hl, wpAny_loadPart' hb; exact ⟨_, rfl, h⟩
end PySem.AutoSeq1
namespace Bl
open PySem PySem.Spec PyProof.Rows L2
section
variable {X : Cx}
def rCatL (K : PySem.W.Frag) : R2 := fun x y H Q => ∃ l b xs zs, x = .ref l ∧ y = .ref b ∧ SqL K H l xs ∧ SqL K H b zs ∧ xs.length + zs.length ≤ sizeLine ∧ ∀ p, H p = none → Q (.ref p) (upd H p (.lst (xs ++ zs)))
theorem op_catL : OpR X (binaryOp .Add) (rCatL X.K) := by
  intro pins s σ H x y v u Q I rx ry h
  obtain ⟨l, b, xs, zs, rfl, rfl, hH, hB, hz, q⟩ := h
  cases rx
  cases ry
  obtain ⟨its, r, ⟨o, n, e, c1, c2, c3⟩, _⟩ := I.list hH
  obtain ⟨its2, r2, ⟨o2, n2, e2, d1, d2, d3⟩, _⟩ := I.list hB
  obtain ⟨cls, dct, dat, sl⟩ := o
  obtain ⟨cls2, dct2, dat2, sl2⟩ := o2
  dsimp only at c1 c2 c3 d1 d2 d3
  subst c1 c2 c3 d1 d2 d3
  have l1 := r.length
  have l2 := r2.length
  refine PySem.concat_meets ⟨_, e, rfl⟩ ⟨_, e2, rfl⟩ PySem.noFill_list_add PySem.seq_list_add F.slot_list_add F.entry_list_add (F.args_list_add_2 _ _) (PySem.AutoSeq1.list_add_any _ _ _ _ _ _ _ _ (by rw [List.size_toArray, List.size_toArray]; omega)) ⟨e, e2, ?_⟩
  have ea : its.toArray ++ its2.toArray = (its ++ its2).toArray := by simp
  rw [ea]
  exact ⟨.ref _, _, I.lnew (t' := s.toks) (r.append r2) (by rw [List.length_append]; omega), rfl, q _ I.fresh⟩
def fCat : F2 := fun x y S Q => match x, y with
  | .lst a, .lst b => a.length + b.length ≤ sizeLine ∧ Q (.lst (a ++ b)) S
  | _, _ => False
theorem moCat : MoF2 fCat := by (intro x y S Q Q' h q; unfold fCat at q ⊢; split at q <;> first | exact h _ _ q | exact ⟨q.1, h _ _ q.2⟩ | exact ⟨q.1, q.2.1, h _ _ q.2.2⟩ | exact q.elim)
theorem lst_sq {K : Kz} {S : Sto} {H : Hp} {ds : List D} {v : V} (h : Rp K S H (.lst ds) v) : ∃ a vs, v = .ref a ∧ SqL K.K H a vs ∧ RpL K S H ds vs := by
  cases h with
  | lst h1 _ _ h2 => exact ⟨_, _, rfl, .inl h1, h2⟩
  | lstK h1 h2 => exact ⟨_, _, rfl, SqL.ofK h1, h2⟩
theorem opD_cat : OpD X (binaryOp .Add) fCat := by
  refine ⟨moCat, fun pins s σ H x y v u Q Z S dx dy I rx ry rs r1 r2 h => ?_⟩
  cases dx <;> first | exact h.elim | skip
  cases dy <;> first | exact h.elim | skip
  obtain ⟨a, vs, rfl, h1, p1⟩ := lst_sq r1
  obtain ⟨b, ws, rfl, h2, p2⟩ := lst_sq r2
  refine op_catL pins s σ H _ _ v u Q I rx ry ⟨_, _, _, _, rfl, rfl, h1, h2, by rw [← p1.length, ← p2.length]; exact h.1, fun p hp => ?_⟩
  obtain ⟨a1, r⟩ := Rp.newL rs hp (p1.append p2)
  exact h.2 _ _ a1 r
end
/-! ### sorted, of whole numbers, of a list that is grown too -/
end Bl

/-! sorted(set(..)) of whole numbers -/
namespace Bl
open PySem PySem.Spec PyProof.Rows L2
section
variable {P : Program} {w : World} {A : Around} {E : Value → Shared → Prop} {s : Shared}
end
end Bl

namespace Bl
open PySem PySem.Spec PyProof.Rows L2
section
variable {X : Cx}
end
/-- whole numbers of a list, grown or not -/
def setK (d : D) (S : Sto) (Q : DK) : Prop := match itemsOf S d with
  | some xs => (match intsOf xs with | some ns => ns.length < 64 ∧ ∀ ms : List Int, ms.Pairwise (· < ·) → (∀ k, k ∈ ms ↔ k ∈ ns) → Q (.lst (ms.map D.int)) S | none => False)
  | none => False
def notTup : D → Bool
  | .tup _ => false
  | _ => true
def dSortSet (t : TEd) : TEd := fun env S Q E => t env S (fun d S1 => notTup d = true ∧ setK d S1 Q) E
theorem moSortSet {t : TEd} (ht : MoE t) : MoE (dSortSet t) := fun env S Q Q' E E' h he q => ht _ _ _ _ _ _ (fun d S1 q1 => ⟨q1.1, by
  have q1 := q1.2
  unfold setK at q1 ⊢
  split at q1
  · split at q1
    · exact ⟨q1.1, fun ms h1 h2 => h _ _ (q1.2 ms h1 h2)⟩
    · exact q1.elim
  · exact q1.elim⟩) he q
section
variable {P : Program} {w : World} {K : PySem.W.Frag} {mg : Str → Option Value} {base : Heap} {N : List Str} {sc : Scope} {vw : Vw} {k : Nat} {X : Cx} {W : WX}
end
/-- list + list, the first one grown or not -/
def fCatR : F2 := fun x y S Q => match x, y with
  | .lst a, .lst b => a.length + b.length ≤ sizeLine ∧ Q (.lst (a ++ b)) S
  | .ref r, .lst b => match S r with
    | some a => a.length + b.length ≤ sizeLine ∧ Q (.lst (a ++ b)) S
    | none => False
  | _, _ => False
theorem moCatR : MoF2 fCatR := fun x y S Q Q' h q => by
  unfold fCatR at q ⊢
  split at q
  · exact ⟨q.1, h _ _ q.2⟩
  · split at q
    · exact ⟨q.1, h _ _ q.2⟩
    · exact q.elim
  · exact q.elim
end Bl

/-! list + list, handed to a name whose list is grown -/
namespace Bl
open PySem PySem.Spec PyProof.Rows L2
def fCatG : F2 := fun x y S Q => match x, y with
  | .lst a, .lst b => a.length + b.length ≤ sizeLine ∧ ∀ p, S p = none → Q (.ref p) (sup S p (a ++ b))
  | .ref r, .lst b => match S r with
    | some a => a.length + b.length ≤ sizeLine ∧ ∀ p, S p = none → Q (.ref p) (sup S p (a ++ b))
    | none => False
  | _, _ => False
theorem moCatG : MoF2 fCatG := fun x y S Q Q' h q => by
  unfold fCatG at q ⊢
  split at q
  · exact ⟨q.1, fun p n => h _ _ (q.2 p n)⟩
  · split at q
    · exact ⟨q.1, fun p n => h _ _ (q.2 p n)⟩
    · exact q.elim
  · exact q.elim
theorem opD_catG {X : Cx} : OpD X (binaryOp .Add) fCatG := by
  refine ⟨moCatG, fun pins s σ H x y v u Q Z S dx dy I rx ry rs r1 r2 h => ?_⟩
  unfold fCatG at h
  split at h
  · obtain ⟨a, vs, rfl, h1, p1⟩ := lst_sq r1
    obtain ⟨b, ws, rfl, h2, p2⟩ := lst_sq r2
    refine op_catL pins s σ H _ _ v u Q I rx ry ⟨_, _, _, _, rfl, rfl, h1, h2, by rw [← p1.length, ← p2.length]; exact h.1, fun p hp => ?_⟩
    exact h.2 p (rs.free hp) _ _ (Rp.newR rs hp (p1.append p2)) (.ref p)
  · rename_i r b
    split at h <;> first | exact h.elim | skip
    rename_i a e
    cases r1
    obtain ⟨vs, hl, p1⟩ := rs.at_ r a e
    obtain ⟨b', ws, rfl, h2, p2⟩ := lst_sq r2
    refine op_catL pins s σ H _ _ v u Q I rx ry ⟨_, _, _, _, rfl, rfl, SqL.of hl, h2, by rw [← p1.length, ← p2.length]; exact h.1, fun p hp => ?_⟩
    exact h.2 p (rs.free hp) _ _ (Rp.newR rs hp (p1.append p2)) (.ref p)
  · exact h.elim
end Bl

/-! a list put behind a grown list; a thing put into one; a tuple once or not at all -/
namespace PySem.AutoSeq1
end PySem.AutoSeq1
namespace Bl
open PySem PySem.Spec PyProof.Rows L2
section
variable {X : Cx}
def gIns : GM := fun a ds S Q => match ds with
  | [.int i, d] => match S a with
    | some xs => xs.length < sizeLine ∧ 0 ≤ i ∧ i < 2 ^ 63 ∧ Q .non (sup S a (xs.take i.toNat ++ [d] ++ xs.drop i.toNat))
    | none => False
  | _ => False
theorem md_insert : MtD X "list.insert" gIns := by
  refine ⟨fun a ds S Q Q' h q => ?_, fun pins s σ H x xs v us Q I rx rv h => ?_⟩
  · unfold gIns at q ⊢
    split at q <;> first | exact q.elim | skip
    split at q <;> first | exact q.elim | exact ⟨q.1, q.2.1, q.2.2.1, h _ _ q.2.2.2⟩
  · obtain ⟨Z, S, a, ds, rfl, rs, rl, q⟩ := h
    unfold gIns at q
    split at q <;> first | exact q.elim | skip
    split at q <;> first | exact q.elim | skip
    rename_i i d _ ys e
    obtain ⟨y1, y2, rfl, r1, r2⟩ := rl.two
    cases r1
    obtain ⟨vs, hl, rv2⟩ := rs.at_ a ys e
    refine mt_insert pins s σ H _ _ v us Q I rx rv ⟨a, vs, i, y2, rfl, rfl, hl, by rw [← rv2.length]; exact q.1, q.2.1, q.2.2.1, ?_⟩
    exact q.2.2.2 _ _ (Rp.putR rs e (((rv2.take _).append (.cons r2 .nil)).append (rv2.drop _))) .non
variable {W : WX} {o e e2 : Expr} {es : List Expr} {to : TEd} {ta : TAd} {apos cpos : Pos}
theorem je_insert (ho : JE X W o to) (ha : JA X W [e, e2] ta) (hbase : attributeBase o "insert" X.env (eval o X.env) = eval o X.env := by rfl) (hline : (apos.endLine == cpos.line) = true := by rfl) (hs : starEach [e, e2] X.env = (false, eval e X.env) :: starEach [e2] X.env := by rfl)
    (hfew : ((backTo cpos (starEach [e, e2] X.env)).all (fun x => !x.1) && (backToKw cpos (keywordEach [] X.env)).all (fun x => x.1.isSome) && decide ([e, e2].length + ([] : List Keyword).length + (if ([] : List Keyword).isEmpty then 0 else 1) < 30)) = true := by rfl) (hpl : (backTo cpos (starEach [e2] X.env)).any (·.1) = false := by rfl) : JE X W (.Call (.Attribute o "insert" apos) [e, e2] [] cpos) (dLm gIns to ta) :=
  je_lm PySem.F.slot_list_insert PySem.F.type_list_insert md_insert ho ha hbase hfew hline hs hpl
end
end Bl
namespace Bl
open PySem PySem.Spec PyProof.Rows L2
def fRep01 : F2 := fun x y S Q => match x, y with
  | .tup (d :: ds), .int i => (i = 1 ∧ Q (.tup (d :: ds)) S) ∨ (i = 0 ∧ Q (.tup []) S)
  | _, _ => False
theorem moRep01 : MoF2 fRep01 := fun x y S Q Q' h q => by
  unfold fRep01 at q ⊢
  split at q <;> first | exact q.elim | skip
  exact q.imp (fun z => ⟨z.1, h _ _ z.2⟩) fun z => ⟨z.1, h _ _ z.2⟩
end Bl

/-! lists to be grown out of a text's parts and out of a slice; xs.pop(i) -/
namespace Bl
open PySem PySem.Spec PyProof.Rows L2
def fSplitR : F2 := fun x y S Q => match x, y with
  | .str a, .str b => (b.length == 0) = false ∧ a.length + 2 ≤ sizeLine ∧ ∀ p, S p = none → Q (.ref p) (sup S p ((Txt.split a b).map D.str))
  | _, _ => False
theorem moSplitR : MoF2 fSplitR := fun x y S Q Q' h q => by
  unfold fSplitR at q ⊢
  split at q <;> first | exact ⟨q.1, q.2.1, fun p n => h _ _ (q.2.2 p n)⟩ | exact q.elim
section
variable {X : Cx} {W : WX} {o e : Expr} {to te : TEd} {apos pos : Pos}
theorem je_splitR (ho : JE X W o to) (he : JE X W e te) (hs : starEach [e] X.env = [(false, eval e X.env)] := by rfl) (hbase : attributeBase o "split" X.env (eval o X.env) = eval o X.env := by rfl) (hline : (apos.endLine == pos.line) = true := by rfl) :
    JE X W (.Call (.Attribute o "split" apos) [e] [] pos) (dMt fSplitR to te) := by
  refine ⟨PE.imp (pe_split ho.pe he.pe hs hbase hline) fun σ H Q h => ?_, moMt moSplitR ho.mo he.mo⟩
  obtain ⟨Z, env, S, re, rs, q⟩ := h
  refine LE.of ho.mo re rs q (fun d S1 v H1 q1 a1 r1 => ?_) fun x S1 c dx H1 q1 a1 r1 => q1 c dx H1 a1 r1
  obtain ⟨⟨a, rfl⟩, q1⟩ := q1
  cases r1
  refine ⟨⟨a, rfl⟩, LE.of he.mo (re.step a1.st rs) a1.rs q1 (fun d2 S2 v2 H2 q2 a2 r2 => ?_) fun x S2 c dx H2 q2 a2 r2 => q2 c dx H2 (a1.trans a2) r2⟩
  cases d2 <;> first | exact q2.elim | skip
  cases r2
  refine ⟨a, _, rfl, rfl, q2.1, q2.2.1, fun p hp => ?_⟩
  exact q2.2.2 p (a2.rs.free hp) _ _ ((a1.trans a2).trans (Rp.newR a2.rs hp (RpL.strs _))) (.ref p)
end
/-! a slice of a list, to be grown -/
def fSlR (x : D) (lo hi : Option Int) (S : Sto) (Q : DK) : Prop := match x with
  | .lst ds => ∀ p, S p = none → Q (.ref p) (sup S p (cutD ds lo hi))
  | _ => False
theorem moFSlR {x : D} {lo hi : Option Int} {S : Sto} {Q Q' : DK} (h : ∀ d S, Q d S → Q' d S) (q : fSlR x lo hi S Q) : fSlR x lo hi S Q' := by
  unfold fSlR at q ⊢
  cases x <;> first | exact fun p n => h _ _ (q p n) | exact q
def dSlR (t : TEd) (lo hi : TOd) : TEd := fun env S Q E => t env S (fun x S1 => lo env S1 (fun l S2 => hi env S2 (fun u S3 => fSlR x l u S3 Q) E) E) E
theorem moSlR {t : TEd} {lo hi : TOd} (ht : MoE t) (hl : MoE lo) (hh : MoE hi) : MoE (dSlR t lo hi) := fun env S Q Q' E E' h he q =>
  ht _ _ _ _ _ _ (fun x S1 q1 => hl _ _ _ _ _ _ (fun l S2 q2 => hh _ _ _ _ _ _ (fun u S3 q3 => moFSlR h q3) he q2) he q1) he q
section
variable {X : Cx} {W : WX} {e : Expr} {t : TEd} {lo hi : Option Expr} {tl th : TOd} {pos p2 : Pos}
def rSlR (K : PySem.W.Frag) : V → Option Int → Option Int → Hp → VK → Prop := fun x lo hi H Q => ∃ Z S d, RS ⟨K, Z⟩ S H ∧ Rp ⟨K, Z⟩ S H d x ∧ fSlR d lo hi S (PQ ⟨K, Z⟩ S H Q)
theorem slDR : SlR X (rSlR X.K) := by
  intro pins s σ H x v vl vu lo hi sl Q I rx hs pl pu h
  obtain ⟨Z, S, d, rs, r, q⟩ := h
  cases r with
  | lst hq hn hz ha => exact sl_list pins s σ H _ v vl vu lo hi sl Q I rx hs pl pu ⟨_, _, rfl, .inl hq, fun p hp => q p (rs.free hp) _ _ (Rp.newR rs hp (cut_rp (lo := lo) (hi := hi) ha)) (.ref p)⟩
  | lstK hq ha => exact sl_list pins s σ H _ v vl vu lo hi sl Q I rx hs pl pu ⟨_, _, rfl, SqL.ofK hq, fun p hp => q p (rs.free hp) _ _ (Rp.newR rs hp (cut_rp (lo := lo) (hi := hi) ha)) (.ref p)⟩
  | _ => exact q.elim
theorem je_slR (ha : JE X W e t) (hl : JO X W lo tl) (hh : JO X W hi th) : JE X W (.Subscript e (.Slice lo hi none p2) pos) (dSlR t tl th) := by
  refine ⟨PE.imp (pe_slice slDR ha.pe hl.po hh.po) fun σ H Q h => ?_, moSlR ha.mo hl.mo hh.mo⟩
  obtain ⟨Z, env, S, re, rs, q⟩ := h
  refine LE.of ha.mo re rs q (fun d S1 x H1 q1 a1 r1 => ?_) fun x S1 c dx H1 q1 a1 r1 => q1 c dx H1 a1 r1
  refine LO.of hl.mo (re.step a1.st rs) a1.rs q1 (fun l S2 H2 q2 a2 => ?_) fun x S2 c dx H2 q2 a2 r2 => q2 c dx H2 (a1.trans a2) r2
  have a12 := a1.trans a2
  refine LO.of hh.mo (re.step a12.st rs) a2.rs q2 (fun u S3 H3 q3 a3 => ?_) fun x S3 c dx H3 q3 a3 r3 => q3 c dx H3 (a12.trans a3) r3
  exact ⟨Z, S3, d, a3.rs, Rp.step a3.st a2.rs _ _ (Rp.step a2.st a1.rs _ _ r1), moFSlR (fun d S4 q4 => PQ.after (a12.trans a3) q4) q3⟩
end
/-! xs.pop(i) -/
def gPop : GM := fun a ds S Q => match ds with
  | [.int i] => match S a with
    | some xs => 0 ≤ i ∧ i < 2 ^ 63 ∧ match xs[i.toNat]? with
      | some d => Q d (sup S a (xs.eraseIdx i.toNat))
      | none => False
    | none => False
  | _ => False
theorem rpl_erase {K : Kz} {S : Sto} {H : Hp} : ∀ {ds : List D} {vs : List V} (k : Nat), RpL K S H ds vs → RpL K S H (ds.eraseIdx k) (vs.eraseIdx k)
  | _, _, _, .nil => .nil
  | _, _, 0, .cons _ r => r
  | _, _, k + 1, .cons h r => .cons h (rpl_erase k r)
theorem rpl_get {K : Kz} {S : Sto} {H : Hp} : ∀ {ds : List D} {vs : List V} (k : Nat) {d : D}, RpL K S H ds vs → ds[k]? = some d → ∃ v, vs[k]? = some v ∧ Rp K S H d v
  | _, _, _, _, .nil, e => by cases e
  | _, _, 0, _, .cons h r, e => by cases e; exact ⟨_, rfl, h⟩
  | _, _, k + 1, _, .cons h r, e => rpl_get k r e
theorem md_pop {X : Cx} : MtD X "list.pop" gPop := by
  refine ⟨fun a ds S Q Q' h q => ?_, fun pins s σ H x xs v us Q I rx rv h => ?_⟩
  · unfold gPop at q ⊢
    split at q <;> first | exact q.elim | skip
    split at q <;> first | exact q.elim | skip
    obtain ⟨q1, q2, q3⟩ := q
    refine ⟨q1, q2, ?_⟩
    split at q3 <;> first | exact q3.elim | exact h _ _ q3
  · obtain ⟨Z, S, a, ds, rfl, rs, rl, q⟩ := h
    unfold gPop at q
    split at q <;> first | exact q.elim | skip
    split at q <;> first | exact q.elim | skip
    rename_i i _ ys e
    obtain ⟨q1, q2, q3⟩ := q
    split at q3 <;> first | exact q3.elim | skip
    rename_i d ed
    obtain ⟨y1, rfl, r1⟩ := rl.one
    cases r1
    obtain ⟨vs, hl, rv2⟩ := rs.at_ a ys e
    obtain ⟨w, ew, rw'⟩ := rpl_get i.toNat rv2 ed
    have hk : i.toNat < vs.length := by
      obtain ⟨h1, _⟩ := List.getElem?_eq_some_iff.mp ew
      exact h1
    refine mt_popAt pins s σ H _ _ v us Q I rx rv ⟨a, vs, i, i.toNat, w, rfl, rfl, hl, by omega, q2, ?_, ew, ?_⟩
    · unfold seqIndex?
      dsimp only
      rw [if_neg (show ¬ i < 0 by omega), decide_eq_true q1, decide_eq_true (show i < (vs.length : Int) by omega)]
      rfl
    · exact q3 _ _ (Rp.putR rs e (rpl_erase _ rv2)) (Rp.step (Rp.putR rs e (rpl_erase _ rv2)).st rs _ _ rw')
section
variable {X : Cx} {W : WX} {o e : Expr} {to : TEd} {ta : TAd} {apos cpos : Pos}
theorem je_pop (ho : JE X W o to) (ha : JA X W [e] ta) (hbase : attributeBase o "pop" X.env (eval o X.env) = eval o X.env := by rfl) (hline : (apos.endLine == cpos.line) = true := by rfl) (hs : starEach [e] X.env = (false, eval e X.env) :: starEach [] X.env := by rfl)
    (hfew : ((backTo cpos (starEach [e] X.env)).all (fun x => !x.1) && (backToKw cpos (keywordEach [] X.env)).all (fun x => x.1.isSome) && decide ([e].length + ([] : List Keyword).length + (if ([] : List Keyword).isEmpty then 0 else 1) < 30)) = true := by rfl) : JE X W (.Call (.Attribute o "pop" apos) [e] [] cpos) (dLm gPop to ta) :=
  je_lm PySem.F.slot_list_pop PySem.F.type_list_pop md_pop ho ha hbase hfew hline hs rfl
end
end Bl

/-! zip with strict=True, zip of what is reversed: at the library's level. -/
namespace ZG
open PySem PySem.Spec PyProof.Rows RT
section
variable {prog : Program} {w : World} {A : Around} {E : Value → Shared → Prop} {s : Shared}
theorem nextOf_rev_item {it l : Addr} {i : Nat} {items : Array Value} {x : Value} {Q : Value → Shared → Prop} (hit : s.heap.IsRevIter it l (i : Int)) (hl : s.heap.IsList l items) (hx : items[i]? = some x)
    (hQ : ∀ h', h'.IsRevIter it l ((i : Int) - 1) → Heap.SameBut it s.heap h' → Q x { s with heap := h' }) : wpAny (model prog w) A (Builtin.SmallTypes.nextOf (.ref it)) Q E s := by
  obtain ⟨o, ho, hc, hd⟩ := id hit
  obtain ⟨ol, hol, _, nl, hdl⟩ := hl
  unfold Builtin.SmallTypes.nextOf
  refine wpAny_bind (wpAny_callSpecial?_slot (name := Str.ofString "__next__") hit.typeIs F.slot_lri_next
    (wpAny_call_entry F.slot_lri_next hit.typeIs F.entry_lri_next ?_ (F.args_lri_next_1 _)))
  unfold Builtin.«list_reverseiterator.__next__»
  refine wpAny_bind (wpAny_of_eq (a := (Value.ref it, [])) rfl ?_)
  try dsimp only
  refine wpAny_bind (wpAny_field ho hd (x := rawInt (i : Int)) rfl ?_)
  show wpAny _ _ (if (i : Int) < 0 then _ else _) _ _ s
  rw [if_neg (by omega)]
  show wpAny _ _ (field (.ref it) 0 >>= _) _ _ s
  refine wpAny_bind (wpAny_field ho hd (x := .ref l) rfl ?_)
  show wpAny _ _ (seqItems? (.ref l) >>= _) _ _ s
  refine wpAny_bind (wpAny_seqItems hol hdl ?_)
  simp only [Int.toNat_natCast, hx]
  refine wpAny_bind (wpAny_setField ho hd (by simp) ?_)
  first
  | refine wpAny_pure ⟨x, rfl, wpAny_pure (hQ _ ?_ (Heap.SameBut.update ..))⟩
  | refine wpAny_bind (wpAny_pure (wpAny_pure ⟨x, rfl, wpAny_pure (hQ _ ?_ (Heap.SameBut.update ..))⟩))
  exact ⟨_, Heap.get?_update_self _ ho (Obj.isFreed_of_fields (Obj.data_mapFields hd _)), (Obj.cls_mapFields ..).trans hc, by
    rw [Obj.data_mapFields hd]; simp⟩
theorem nextOf_rev_end {it l : Addr} {Q : Value → Shared → Prop} (hh : A.handled = none) (hit : s.heap.IsRevIter it l (-1))
    (hE : ∀ h' e, Heap.ExtBut it s.heap h' → (∃ o, h'.get? e = some o ∧ o.cls = .type "StopIteration") → E (.ref e) { s with heap := h' }) : wpAny (model prog w) A (Builtin.SmallTypes.nextOf (.ref it)) Q E s := by
  obtain ⟨o, ho, hc, hd⟩ := id hit
  unfold Builtin.SmallTypes.nextOf
  refine wpAny_bind (wpAny_callSpecial?_slot (name := Str.ofString "__next__") hit.typeIs F.slot_lri_next
    (wpAny_call_entry F.slot_lri_next hit.typeIs F.entry_lri_next ?_ (F.args_lri_next_1 _)))
  unfold Builtin.«list_reverseiterator.__next__»
  refine wpAny_bind (wpAny_of_eq (a := (Value.ref it, [])) rfl ?_)
  try dsimp only
  refine wpAny_bind (wpAny_field ho hd (x := rawInt (-1)) rfl ?_)
  show wpAny _ _ (if (-1 : Int) < 0 then _ else _) _ _ s
  rw [if_pos (by decide)]
  refine wpAny_bind (wpAny_rule ?_)
  first
  | show wpAny _ _ (newExc (.type "StopIteration") [] >>= _) _ _ _
  | (refine wpAny_bind ?_; show wpAny _ _ (newExc (.type "StopIteration") [] >>= _) _ _ _)
  refine wpAny_bind ?_
  simp only [newExc, newTuple]
  refine wpAny_bind (wpAny_newObj_type ?_ (by size_fits))
  refine wpAny_bind (m := firstArgMember _ _) (wpAny_of_eq (a := Value.none) (by first | rfl | (simp only [firstArgMember]; rfl)) ?_)
  refine wpAny_newObj_type ?_ (by size_fits)
  simp only [raiseNew]
  refine wpAny_bind (wpAny_handled ?_)
  first | rw [show A.in1.handled = none from hh] | rw [hh]
  refine wpAny_bind (wpAny_pure (wpAny_throw ?_))
  exact hE _ _ (((Heap.ExtBut.refl _ _).push _).push _) ⟨_, Heap.get?_push_size _ rfl, rfl⟩
theorem nextOf_rt_item {it t : Addr} {i : Nat} {items : Array Value} {x : Value} {Q : Value → Shared → Prop} (hit : IsRt s.heap it t (i : Int)) (ht : IsTup s.heap t items) (hx : items[i]? = some x) (hsz : items.size ≤ sizeLine)
    (hQ : ∀ h', IsRt h' it t ((i : Int) - 1) → Heap.SameBut it s.heap h' → Q x { s with heap := h', toks := s.toks + 1 }) : wpAny (model prog w) A (Builtin.SmallTypes.nextOf (.ref it)) Q E s := by
  obtain ⟨o, ho, hc, hd⟩ := id hit
  have hi : i < items.size := (Array.getElem?_eq_some_iff.mp hx).1
  have hT : s.TypeIs (.ref t) "tuple" := IsTup.typeOf' ht
  rw [sizeLine_eq] at hsz
  unfold Builtin.SmallTypes.nextOf
  refine wpAny_bind (wpAny_callSpecial?_slot (name := Str.ofString "__next__") hit.typeIs slot_rt_next
    (wpAny_call_entry slot_rt_next hit.typeIs entry_rt_next ?_ (args_rt_next _)))
  unfold Builtin.«reversed.__next__»
  refine wpAny_bind (wpAny_of_eq (a := (Value.ref it, [])) rfl ?_)
  try dsimp only
  refine wpAny_bind (wpAny_field ho hd (x := .ref t) rfl ?_)
  try dsimp only
  refine wpAny_bind (wpAny_field ho hd (x := rawInt (i : Int)) rfl ?_)
  show wpAny _ _ (if (i : Int) < 0 then _ else _) _ _ s
  rw [if_neg (by omega)]
  try dsimp only
  refine wpAny_bind (wpAny_specialOf hT get_tuple ?_)
  try dsimp only
  try rw [if_neg (by decide)]
  try dsimp only
  refine wpAny_bind (wpAny_mkInt ?_)
  refine wpAny_bind (wpAny_attempt ?_)
  have fin : seqIndex? (i : Int) items.size = some i := seqIndex_of (by omega) (by omega)
  refine PyProof.Rows.getItem_tuple (s := { s with toks := s.toks + 1 }) ht (by omega) (by omega) fin hx ?_
  try dsimp only
  refine wpAny_bind (wpAny_field (s := { s with toks := s.toks + 1 }) ho hd (x := rawInt (i : Int)) rfl ?_)
  try dsimp only
  refine wpAny_bind (wpAny_setField (s := { s with toks := s.toks + 1 }) ho hd (by simp) ?_)
  first
  | refine wpAny_pure ⟨x, rfl, wpAny_pure (hQ _ ?_ (Heap.SameBut.update ..))⟩
  | refine wpAny_bind (wpAny_pure (wpAny_pure ⟨x, rfl, wpAny_pure (hQ _ ?_ (Heap.SameBut.update ..))⟩))
  exact ⟨_, Heap.get?_update_self _ ho (Obj.isFreed_of_fields (Obj.data_mapFields hd _)), (Obj.cls_mapFields ..).trans hc, by
    rw [Obj.data_mapFields hd]; simp⟩
theorem nextOf_rt_end {it t : Addr} {Q : Value → Shared → Prop} (hh : A.handled = none) (hit : IsRt s.heap it t (-1))
    (hE : ∀ h' e, Heap.ExtBut it s.heap h' → (∃ o, h'.get? e = some o ∧ o.cls = .type "StopIteration") → E (.ref e) { s with heap := h' }) : wpAny (model prog w) A (Builtin.SmallTypes.nextOf (.ref it)) Q E s := by
  obtain ⟨o, ho, hc, hd⟩ := id hit
  unfold Builtin.SmallTypes.nextOf
  refine wpAny_bind (wpAny_callSpecial?_slot (name := Str.ofString "__next__") hit.typeIs slot_rt_next
    (wpAny_call_entry slot_rt_next hit.typeIs entry_rt_next ?_ (args_rt_next _)))
  unfold Builtin.«reversed.__next__»
  refine wpAny_bind (wpAny_of_eq (a := (Value.ref it, [])) rfl ?_)
  try dsimp only
  refine wpAny_bind (wpAny_field ho hd (x := .ref t) rfl ?_)
  try dsimp only
  refine wpAny_bind (wpAny_field ho hd (x := rawInt (-1)) rfl ?_)
  show wpAny _ _ (if (-1 : Int) < 0 then _ else _) _ _ s
  rw [if_pos (by decide)]
  try dsimp only
  refine wpAny_bind (wpAny_rule ?_)
  refine wpAny_bind ?_
  wp_delta
  refine wpAny_bind (wpAny_setField ho hd (by simp) ?_)
  have ho2 := Heap.get?_update_self (Obj.mapFields (·.setIfInBounds 1 (rawInt (-1)))) ho (Obj.isFreed_of_fields (Obj.data_mapFields hd _))
  refine wpAny_setField (s := { s with heap := s.heap.update it (Obj.mapFields (·.setIfInBounds 1 (rawInt (-1)))) }) ho2 (Obj.data_mapFields hd _) (by simp) ?_
  try dsimp only
  first
  | show wpAny _ _ (newExc (.type "StopIteration") [] >>= _) _ _ _
  | (refine wpAny_bind ?_; show wpAny _ _ (newExc (.type "StopIteration") [] >>= _) _ _ _)
  | (refine wpAny_bind ?_; wp_delta; show wpAny _ _ (newExc (.type "StopIteration") [] >>= _) _ _ _)
  refine wpAny_bind ?_
  simp only [newExc, newTuple]
  refine wpAny_bind (wpAny_newObj_type ?_ (by size_fits))
  refine wpAny_bind (m := firstArgMember _ _) (wpAny_of_eq (a := Value.none) (by first | rfl | (simp only [firstArgMember]; rfl)) ?_)
  refine wpAny_newObj_type ?_ (by size_fits)
  simp only [raiseNew]
  refine wpAny_bind (wpAny_handled ?_)
  first | rw [show A.in1.handled = none from hh] | rw [hh]
  refine wpAny_bind (wpAny_pure (wpAny_throw ?_))
  refine hE _ _ ?_ ⟨_, Heap.get?_push_size _ rfl, rfl⟩
  refine ((?_ : Heap.ExtBut it s.heap _).push _).push _
  exact fun b ob hb e => (Heap.get?_update_other _ _ (Ne.symm hb)).trans ((Heap.get?_update_other _ _ (Ne.symm hb)).trans e)
end
theorem draws_rev {prog : Program} {w : World} {A : Around} (hh : A.handled = none) (it l : Addr) (hne : l ≠ it) (items : Array Value) :
    Draws prog w A it [it, l] items.size (fun i v => items[items.size - 1 - i]? = some v) (fun i h => (i ≤ items.size ∧ h.IsRevIter it l ((items.size : Int) - 1 - (i : Int))) ∧ h.IsList l items) where
  live := fun _ _ st => let ⟨o, ho, _⟩ := st.1.2; ⟨o, ho⟩
  frame := fun _ _ _ st hk => ⟨⟨st.1.1, st.1.2.at fun o e => hk it (by simp) o e⟩, st.2.at fun o e => hk l (by simp) o e⟩
  item := fun i s Q E hi st hQ => by
    have e : (items.size : Int) - 1 - (i : Int) = ((items.size - 1 - i : Nat) : Int) := by omega
    have hit := st.1.2
    rw [e] at hit
    have hx : items[items.size - 1 - i]? = some (items[items.size - 1 - i]'(by omega)) := Array.getElem?_eq_getElem (by omega)
    refine nextOf_rev_item hit st.2 hx fun h' hit' hs' => ?_
    have e2 : ((items.size - 1 - i : Nat) : Int) - 1 = (items.size : Int) - 1 - ((i + 1 : Nat) : Int) := by omega
    rw [e2] at hit'
    exact hQ _ h' s.toks hx ⟨⟨hi, hit'⟩, st.2.extBut hs'.extBut hne⟩ hs'
  done := fun s Q E st hE => by
    have e : (items.size : Int) - 1 - (items.size : Int) = -1 := by omega
    have hit := st.1.2
    rw [e] at hit
    exact nextOf_rev_end hh hit hE
theorem draws_rt {prog : Program} {w : World} {A : Around} (hh : A.handled = none) (it t : Addr) (hne : t ≠ it) (items : Array Value) (hsz : items.size ≤ sizeLine) :
    Draws prog w A it [it, t] items.size (fun i v => items[items.size - 1 - i]? = some v) (fun i h => (i ≤ items.size ∧ IsRt h it t ((items.size : Int) - 1 - (i : Int))) ∧ IsTup h t items) where
  live := fun _ _ st => let ⟨o, ho, _⟩ := st.1.2; ⟨o, ho⟩
  frame := fun _ _ _ st hk => ⟨⟨st.1.1, st.1.2.at fun o e => hk it (by simp) o e⟩, let ⟨o, ho, r⟩ := st.2; ⟨o, hk t (by simp) o ho, r⟩⟩
  item := fun i s Q E hi st hQ => by
    have e : (items.size : Int) - 1 - (i : Int) = ((items.size - 1 - i : Nat) : Int) := by omega
    have hit := st.1.2
    rw [e] at hit
    have hx : items[items.size - 1 - i]? = some (items[items.size - 1 - i]'(by omega)) := Array.getElem?_eq_getElem (by omega)
    refine nextOf_rt_item hit st.2 hx hsz fun h' hit' hs' => ?_
    have e2 : ((items.size - 1 - i : Nat) : Int) - 1 = (items.size : Int) - 1 - ((i + 1 : Nat) : Int) := by omega
    rw [e2] at hit'
    exact hQ _ h' (s.toks + 1) hx ⟨⟨hi, hit'⟩, let ⟨o, ho, r⟩ := st.2; ⟨o, hs'.extBut _ _ hne ho, r⟩⟩ hs'
  done := fun s Q E st hE => by
    have e : (items.size : Int) - 1 - (items.size : Int) = -1 := by omega
    have hit := st.1.2
    rw [e] at hit
    exact nextOf_rt_end hh hit hE

/-! ### strict -/
section
variable {prog : Program} {w : World} {A : Around} {E : Value → Shared → Prop} {s : Shared} {z TI TO i1 i2 : Addr} {fp1 fp2 : List Addr} {n1 n2 i : Nat} {P1 P2 : Nat → Value → Prop} {St1 St2 : Nat → Heap → Prop} {a1 a2 : Value}
end
/-! ### zip(a, b, strict=True), a and b lists or tuples -/
/-- an iterator begins over v: the object that is laid -/
structure Beg (v : Value) (o : Obj) (Hs : Heap → Prop) : Prop where
  iter : ∀ (prog : Program) (w : World) (A : Around) (E : Value → Shared → Prop) (s : Shared) (Q : Value → Shared → Prop), Hs s.heap → Q (.ref s.heap.objs.size) { s with heap := s.heap.push o } → wpAny (model prog w) A (pyIter v) Q E s
  up : ∀ (h : Heap) (o' : Obj), Hs h → Hs (h.push o')
  free : o.isFreed = false
end ZG

namespace ZG
open PySem PySem.Spec PyProof.Rows RT
section
variable {prog : Program} {w : World} {A : Around} {E : Value → Shared → Prop} {s : Shared}
end
/-! ### zip(reversed(a), reversed(b)) -/
/-- an iterator that is its own -/
structure Own (i : Addr) (Hs : Heap → Prop) : Prop where
  iter : ∀ (prog : Program) (w : World) (A : Around) (E : Value → Shared → Prop) (s : Shared) (Q : Value → Shared → Prop), Hs s.heap → Q (.ref i) s → wpAny (model prog w) A (pyIter (.ref i)) Q E s
section
variable {prog : Program} {w : World} {A : Around} {E : Value → Shared → Prop} {s : Shared}
end
end ZG

/-! zip of lists and tuples, read from either end, strict or not, as a walk. -/
namespace ZG
open PySem PySem.Spec PyProof.Rows L2 RT
inductive SK where
  | l | t | rl | rt
def SK.sq (K : PySem.W.Frag) : SK → Hp → Addr → List V → Prop
  | .l => SqL K | .rl => SqL K | .t => SqT K | .rt => SqT K
def SK.ix : SK → Nat → Nat → Nat
  | .l, _, i => i | .t, _, i => i | .rl, n, i => n - 1 - i | .rt, n, i => n - 1 - i
def SK.it : SK → Heap → Addr → Addr → Nat → Nat → Prop
  | .l, h, it, a, _, i => h.IsListIter it a i
  | .t, h, it, a, _, i => h.IsTupleIter it a i
  | .rl, h, it, a, n, i => i ≤ n ∧ h.IsRevIter it a ((n : Int) - 1 - (i : Int))
  | .rt, h, it, a, n, i => i ≤ n ∧ IsRt h it a ((n : Int) - 1 - (i : Int))
/-- an iterator over a list or a tuple draws its items -/
theorem SK.draws {X : Cx} {pins : List (Addr × Obj)} {σ : L2.St} {H : Hp} {s : Shared} (k : SK) (I : Inv X pins σ H s) (hh : X.A.in1.handled = none) {a it : Addr} {xs : List V} (hq : k.sq X.K H a xs) (hne : a ≠ it) :
    ∃ (its : List Value) (St : Nat → Heap → Prop), Vals xs its ∧ Draws X.prog X.w X.A.in1 it [it, a] xs.length (fun i v => its[k.ix xs.length i]? = some v) St ∧ (∀ i, k.it s.heap it a xs.length i → St i s.heap) ∧ ∀ i h, St i h → k.it h it a xs.length i := by
  cases k with
  | l =>
    obtain ⟨its, rv, p, _⟩ := I.list hq
    have D := Draws.list (prog := X.prog) (w := X.w) hh it a hne its.toArray
    simp only [List.size_toArray, ← rv.length, List.getElem?_toArray] at D
    exact ⟨its, _, rv, D, fun i st => ⟨st, p.isList⟩, fun i h st => st.1⟩
  | t =>
    obtain ⟨its, rv, p, _⟩ := I.tuple hq
    have D := Draws.tuple (prog := X.prog) (w := X.w) hh it a hne its.toArray
    simp only [List.size_toArray, ← rv.length, List.getElem?_toArray] at D
    exact ⟨its, _, rv, D, fun i st => ⟨st, show s.heap.IsTuple a its.toArray from p⟩, fun i h st => st.1⟩
  | rl =>
    obtain ⟨its, rv, p, _⟩ := I.list hq
    have D := draws_rev (prog := X.prog) (w := X.w) hh it a hne its.toArray
    simp only [List.size_toArray, ← rv.length, List.getElem?_toArray] at D
    exact ⟨its, _, rv, D, fun i st => ⟨st, p.isList⟩, fun i h st => st.1⟩
  | rt =>
    obtain ⟨its, rv, p, hz⟩ := I.tuple hq
    have D := draws_rt (prog := X.prog) (w := X.w) hh it a hne its.toArray (by rw [List.size_toArray, ← rv.length]; exact hz)
    simp only [List.size_toArray, ← rv.length, List.getElem?_toArray] at D
    exact ⟨its, _, rv, D, fun i st => ⟨st, p⟩, fun i h st => st.1⟩
theorem SK.inj {X : Cx} {pins : List (Addr × Obj)} {σ : L2.St} {H : Hp} {s : Shared} {k : SK} (I : Inv X pins σ H s) {a : Addr} {xs ys : List V} (h1 : k.sq X.K H a xs) (h2 : k.sq X.K H a ys) : xs = ys := by
  cases k with
  | l => exact I.list_inj h1 h2
  | t => exact I.tuple_inj h1 h2
  | rl => exact I.list_inj h1 h2
  | rt => exact I.tuple_inj h1 h2
end ZG

namespace ZG
open PySem PySem.Spec PyProof.Rows L2 RT
theorem SK.lt {X : Cx} {pins : List (Addr × Obj)} {σ : L2.St} {H : Hp} {s : Shared} (k : SK) (I : Inv X pins σ H s) {a : Addr} {xs : List V} (hq : k.sq X.K H a xs) : ∃ o, s.heap.get? a = some o ∧ (o.cls = .type "list" ∨ o.cls = .type "tuple") := by
  cases k with
  | l => obtain ⟨its, rv, p, _⟩ := I.list hq; obtain ⟨o, ho, hc, _⟩ := p.isList; exact ⟨o, ho, .inl hc⟩
  | t => obtain ⟨its, rv, p, _⟩ := I.tuple hq; obtain ⟨o, ho, hc, _⟩ := id p; exact ⟨o, ho, .inr hc⟩
  | rl => obtain ⟨its, rv, p, _⟩ := I.list hq; obtain ⟨o, ho, hc, _⟩ := p.isList; exact ⟨o, ho, .inl hc⟩
  | rt => obtain ⟨its, rv, p, _⟩ := I.tuple hq; obtain ⟨o, ho, hc, _⟩ := id p; exact ⟨o, ho, .inr hc⟩
theorem SK.own {k : SK} (hk : k = .rl ∨ k = .rt) {i a : Addr} {n : Nat} : Own i (fun h => k.it h i a n 0) := by
  rcases hk with rfl | rfl
  · exact ⟨fun _ _ _ _ _ _ h q => wpAny_pyIter_revIter h.2 q⟩
  · exact ⟨fun _ _ _ _ _ _ h q => iter_rt h.2 q⟩
end ZG

namespace Bl
open PySem PySem.Spec PyProof.Rows L2 ZG
/-! ### zip(x, y, strict=True), zip(reversed(x), reversed(y)) over data -/
def zipSK (x y : D) (S : Sto) (Q : List D → Sto → Prop) : Prop := match seqD x with
  | some xs => (match seqD y with | some ys => xs.length = ys.length ∧ Q (zipD xs ys) S | none => False)
  | none => False
def seqK (x : D) (k : List D → Prop) : Prop := match seqD x with
  | some xs => k xs
  | none => False
theorem seqK.imp {x : D} {k k' : List D → Prop} (h : seqK x k) (i : ∀ xs, k xs → k' xs) : seqK x k' := by
  unfold seqK at *
  split at h
  · exact i _ h
  · exact h.elim
theorem seqK.ex {x : D} {k : List D → Prop} (h : seqK x k) : ∃ xs, seqD x = some xs ∧ k xs := by
  unfold seqK at h
  split at h
  · exact ⟨_, by assumption, h⟩
  · exact h.elim
def iZipSD (t u : TEd) : TAd := fun env S Q E => t env S (fun x S1 => u env S1 (fun y S2 => zipSK x y S2 Q) E) E
def iZipRD (t u : TEd) : TAd := fun env S Q E => t env S (fun x S1 => seqK x fun xs => u env S1 (fun y S2 => seqK y fun ys => Q (zipD xs.reverse ys.reverse) S2) E) E
theorem moZipSD {t u : TEd} (ht : MoE t) (hu : MoE u) : MoE (iZipSD t u) := fun env S Q Q' E E' h he q => ht _ _ _ _ _ _ (fun x S1 q1 => hu _ _ _ _ _ _ (fun y S2 q2 => by
  unfold zipSK at q2 ⊢
  split at q2
  · split at q2
    · exact ⟨q2.1, h _ _ q2.2⟩
    · exact q2.elim
  · exact q2.elim) he q1) he q
theorem moZipRD {t u : TEd} (ht : MoE t) (hu : MoE u) : MoE (iZipRD t u) := fun env S Q Q' E E' h he q => ht _ _ _ _ _ _ (fun x S1 q1 => q1.imp fun xs q1 => hu _ _ _ _ _ _ (fun y S2 q2 => q2.imp fun ys q2 => h _ _ q2) he q1) he q
section
variable {P : Program} {w : World} {K : PySem.W.Frag} {mg : Str → Option Value} {base : Heap} {N : List Str} {sc : Scope} {vw : Vw} {k : Nat} {X : Cx} {W : WX}
end
end Bl

namespace Go
open PySem PySem.Spec PyProof.Rows L2 Bl Lb
section
variable {env : Ev} {S : Sto} {E : EK} {t u : TEd} {Q : List D → Sto → Prop} {ds es : List D} {a b : D} {N : Nd} {g : Tg} {tb : TSd} {tt : TTd} {te : TEd} {k' : List D → Prop}
theorem zipS' (k : t env S (fun x S1 => u env S1 (fun y S2 => zipSK x y S2 Q) E) E) : iZipSD t u env S Q E := k
theorem zipST (h : Nat.beq ds.length es.length = true) (k : Q (zipD ds es) S) : zipSK (.tup ds) (.tup es) S Q := ⟨Nat.eq_of_beq_eq_true h, k⟩
theorem zipSL (h : Nat.beq ds.length es.length = true) (k : Q (zipD ds es) S) : zipSK (.lst ds) (.lst es) S Q := ⟨Nat.eq_of_beq_eq_true h, k⟩
theorem zipR' (k : t env S (fun x S1 => seqK x fun xs => u env S1 (fun y S2 => seqK y fun ys => Q (zipD xs.reverse ys.reverse) S2) E) E) : iZipRD t u env S Q E := k
theorem seqT (k : k' ds) : seqK (.tup ds) k' := k
theorem seqL (k : k' ds) : seqK (.lst ds) k' := k
theorem for_zc (k : forD g tb (.tup [a, b] :: zipD ds es) env S N) : forD g tb (zipD (a :: ds) (b :: es)) env S N := k
theorem for_zn (k : forD g tb [] env S N) : forD g tb (zipD [] es) env S N := k
theorem lg_zc {Q : List D → Sto → Prop} (k : lcGo g tt te env (.tup [a, b] :: zipD ds es) S Q) : lcGo g tt te env (zipD (a :: ds) (b :: es)) S Q := k
theorem lg_zn {Q : List D → Sto → Prop} (k : lcGo g tt te env [] S Q) : lcGo g tt te env (zipD [] es) S Q := k
end
end Go
namespace Go
open PySem PySem.Spec PyProof.Rows L2 Bl Lb
theorem appG {ta : TAd} {env : Ev} {S : Sto} {Q : DK} {E : EK} {r : Addr} {i : Nat} {xs : List D} (e : env[i]? = some (some (.ref r))) (h : S r = some xs) (k : ta env S (fun ds S2 => gApp r ds S2 Q) E) : dLm gApp (vr i) ta env S Q E := by
  unfold dLm
  refine vr_go e ?_
  exact ⟨by rw [h]; rfl, k⟩
theorem appK {r : Addr} {d : D} {xs : List D} {S : Sto} {Q : DK} (h : S r = some xs) (hl : xs.length < 1000) (k : Q .non (sup S r (xs ++ [d]))) : gApp r [d] S Q := by
  unfold gApp
  dsimp only
  rw [h]
  exact ⟨Nat.lt_trans hl (by decide), k⟩
end Go
namespace Go
open PySem PySem.Spec PyProof.Rows L2 Bl Lb
theorem frz {i : Nat} {env : Ev} {S : Sto} {N : Nd} {t : TSd} {a : Addr} {ds : List D} (e : env[i]? = some (some (.ref a))) (h : S a = some ds) (k : t (env.set i (some (.lst ds))) (sdel S a) N) : sFrz i t env S N := by
  unfold sFrz
  rw [e]
  dsimp only
  rw [h]
  exact k
end Go

namespace Lb
open PySem PySem.Spec PyProof.Rows L2 Bl
/-! ### == of a thing and itself; what may be compared -/
mutual
theorem eqD_refl : ∀ d : D, pl d = true → eqD d d = true
  | .non, _ => rfl
  | .bl b, _ => by cases b <;> rfl
  | .int i, _ => by show (i == i) = true; exact beq_self_eq_true i
  | .str x, _ => by show (x == x) = true; exact beq_self_eq_true x
  | .tup ds, h => eqL_refl ds h
  | .lst ds, h => eqL_refl ds h
  | .ref _, h => by cases h
  | .obj _, h => by cases h
theorem eqL_refl : ∀ ds : List D, plL ds = true → PyData.eqvAll (pyL ds) (pyL ds) = true
  | [], _ => rfl
  | d :: ds, h => by
    obtain ⟨h1, h2⟩ := Bool.and_eq_true_iff.mp (show (pl d && plL ds) = true from h)
    show (PyData.eqv (py d) (py d) && PyData.eqvAll (pyL ds) (pyL ds)) = true
    rw [show PyData.eqv (py d) (py d) = true from eqD_refl d h1, eqL_refl ds h2]
    rfl
end
structure okN (n : Nat) (d : D) : Prop where
  p : pl d = true
  c : (py d).canLay0 = true
  d : (py d).depth ≤ n
theorem okN.ok {n : Nat} {d : D} (h : okN n d) (hn : n ≤ 64) : okD d := ⟨h.p, by
  unfold SeqAt.shaped
  rw [h.c]
  exact decide_eq_true (Nat.le_trans h.d hn)⟩
theorem okN.mono {m n : Nat} {d : D} (h : okN m d) (l : m ≤ n) : okN n d := ⟨h.p, h.c, Nat.le_trans h.d l⟩
theorem okN_int {n : Nat} (i : Int) : okN n (.int i) := ⟨rfl, rfl, Nat.zero_le _⟩
theorem okN_non {n : Nat} : okN n .non := ⟨rfl, rfl, Nat.zero_le _⟩
theorem okN_str {n : Nat} {x : Str} (h : okD (.str x)) : okN n (.str x) := ⟨rfl, SeqAt.canLay_of_shaped h.2, Nat.zero_le _⟩
structure okNs (n : Nat) (ds : List D) : Prop where
  p : plL ds = true
  c : PyData.canLayAll0 (pyL ds) = true
  d : PyData.depthAll (pyL ds) ≤ n
theorem okNs_nil {n : Nat} : okNs n [] := ⟨rfl, rfl, Nat.zero_le _⟩
theorem okNs_cons {n : Nat} {d : D} {ds : List D} (h : okN n d) (k : okNs n ds) : okNs n (d :: ds) := ⟨by
  show (pl d && plL ds) = true
  rw [h.p, k.p]; rfl, by
  show (PyData.canLay0 (py d) && PyData.canLayAll0 (pyL ds)) = true
  rw [h.c, k.c]; rfl, by
  show max (PyData.depth (py d)) (PyData.depthAll (pyL ds)) ≤ n
  exact Nat.max_le.mpr ⟨h.d, k.d⟩⟩
theorem okNs_all {n : Nat} : ∀ {ds : List D}, (∀ d ∈ ds, okN n d) → okNs n ds
  | [], _ => okNs_nil
  | d :: ds, h => okNs_cons (h d (List.mem_cons_self ..)) (okNs_all fun e he => h e (List.mem_cons_of_mem _ he))
theorem okN_tup {n : Nat} {ds : List D} (h : okNs n ds) : okN (n + 1) (.tup ds) := ⟨h.p, h.c, by
  show PyData.depthAll (pyL ds) + 1 ≤ n + 1
  have := h.d
  omega⟩
theorem okN_lst {n : Nat} {ds : List D} (h : okNs n ds) : okN (n + 1) (.lst ds) := ⟨h.p, h.c, by
  show PyData.depthAll (pyL ds) + 1 ≤ n + 1
  have := h.d
  omega⟩
theorem okN_pr {n : Nat} (a b : Int) : okN (n + 1) (.tup [.int a, .int b]) := okN_tup (okNs_cons (okN_int _) (okNs_cons (okN_int _) okNs_nil))
theorem ne_refl {d : D} {n : Nat} {S : Sto} {Q : DK} (h : okN n d) (hn : n ≤ 64) (k : Q (.bl false) S) : fNe d d S Q := ⟨h.ok hn, h.ok hn, by rw [eqD_refl d h.p]; exact k⟩
end Lb

namespace Lb
open PySem PySem.Spec PyProof.Rows L2 Bl
def t_far_square : TSd := sRet (dTwo (dTwo (dTwo (dTwo (vr 0) (cn (.int 0)) fIx) (dTwo (vr 1) (cn (.int 0)) fIx) fSub) (cn (.int 2)) fPow) (dTwo (dTwo (dTwo (vr 0) (cn (.int 1)) fIx) (dTwo (vr 1) (cn (.int 1)) fIx) fSub) (cn (.int 2)) fPow) fAdd)
def m_far_square : TFd := fnD 2 2 t_far_square
theorem e_far_square {a0 a1 : D} {S : Sto} {Q : DK} {E : EK} (k : t_far_square [some a0, some a1] S ⟨fun _ S1 => Q .non S1, Q, fun _ _ => False, fun _ _ => False, fun x _ S1 => E x S1⟩) : m_far_square [a0, a1] S Q E := ⟨rfl, k⟩
def t_step_from : TSd := sRet (dTup (aCons (dTwo (dTwo (vr 0) (cn (.int 0)) fIx) (dTwo (vr 1) (cn (.int 0)) fIx) fSub) (aCons (dTwo (dTwo (vr 0) (cn (.int 1)) fIx) (dTwo (vr 1) (cn (.int 1)) fIx) fSub) (aNil))))
def m_step_from : TFd := fnD 2 2 t_step_from
theorem e_step_from {a0 a1 : D} {S : Sto} {Q : DK} {E : EK} (k : t_step_from [some a0, some a1] S ⟨fun _ S1 => Q .non S1, Q, fun _ _ => False, fun _ _ => False, fun x _ S1 => E x S1⟩) : m_step_from [a0, a1] S Q E := ⟨rfl, k⟩
end Lb

section
local macro_rules | `(tactic| walk_at "blz") => `(tactic| fail)
local macro_rules | `(tactic| walk_at "bl0") => `(tactic| (with_reducible (first
  | (refine Go.gVr ?_; first | refine Go.vr0 ?_ | refine Go.vr1 ?_ | refine Go.vr2 ?_ | refine Go.vr3 ?_ | refine Go.vr4 ?_ | refine Go.vr5 ?_ | refine Go.vr6 ?_ | refine Go.vr7 ?_ | refine Go.vr8 ?_ | refine Go.vr9 ?_ | refine Go.vr10 ?_ | refine Go.vr11 ?_ | refine Go.vr12 ?_ | refine Go.vr13 ?_ | refine Go.vr14 ?_ | refine Go.vr15 ?_ | refine Go.vr16 ?_ | refine Go.vr17 ?_ | refine Go.vr18 ?_ | refine Go.vr19 ?_ | refine Go.vr20 ?_ | refine Go.vr21 ?_ | refine Go.vr22 ?_ | refine Go.vr23 ?_)
  | refine Go.two ?_
  | refine Go.cn' ?_
  | (refine Go.gIxT ?_; first | refine Go.ixT0 ?_ | refine Go.ixT1 ?_ | refine Go.ixT2 ?_ | refine Go.ixT3 ?_ | refine Go.ixT4 ?_ | refine Go.ixT5 ?_ | refine Go.ixT6 ?_ | refine Go.ixT7 ?_)
  | refine Go.cons ?_
  | refine Go.nil ?_
  | (refine Go.gAsg ?_; first | refine Go.set0 ?_ | refine Go.set1 ?_ | refine Go.set2 ?_ | refine Go.set3 ?_ | refine Go.set4 ?_ | refine Go.set5 ?_ | refine Go.set6 ?_ | refine Go.set7 ?_ | refine Go.set8 ?_ | refine Go.set9 ?_ | refine Go.set10 ?_ | refine Go.set11 ?_ | refine Go.set12 ?_ | refine Go.set13 ?_ | refine Go.set14 ?_ | refine Go.set15 ?_ | refine Go.set16 ?_ | refine Go.set17 ?_ | refine Go.set18 ?_ | refine Go.set19 ?_ | refine Go.set20 ?_ | refine Go.set21 ?_ | refine Go.set22 ?_ | refine Go.set23 ?_ | refine Go.tp_cons ?_ | refine Go.tp_nil ?_)
  | refine Go.seq ?_
  | refine Go.asg ?_
  | refine Go.call ?_
  | refine Go.callK' rfl rfl ?_
  | refine Go.tup ?_
  | refine Go.tupK' rfl ?_
  | refine Go.tbl' ?_
  | refine Go.tblK' ?_
  | refine Go.if' ?_
  | refine Go.ret ?_
  | refine Go.nx' ?_
  | refine Go.add ?_
  | refine Go.sub' ?_
  | refine Go.par ?_
  | refine Go.par_cons ?_
  | refine Go.par_nil ?_
  | refine Go.and' ?_
  | refine Go.or' ?_
  | refine Go.not' ?_
  | refine Go.ifT ?_
  | refine Go.ifF ?_
  | refine Go.ifN ?_
  | refine Go.lt ?_
  | refine Go.le ?_
  | refine Go.gt ?_
  | refine Go.ge ?_
  | refine Go.eqI ?_
  | refine Go.neI ?_
  | refine Go.ttr' ?_
  | refine Go.truB ?_
  | refine Go.eIf' ?_
  | refine Go.dB' ?_
  | refine Go.for' ?_
  | (refine Go.gIxL ?_; first | refine Go.ixL0 ?_ | refine Go.ixL1 ?_ | refine Go.ixL2 ?_ | refine Go.ixL3 ?_ | refine Go.ixL4 ?_ | refine Go.ixL5 ?_ | refine Go.ixL6 ?_ | refine Go.ixL7 ?_)
  | refine Go.drop ?_
  | refine Go.brk ?_
  | refine Go.cnt ?_
  | refine Go.raise ?_
  | refine Go.thru ?_
  | refine Go.tryAs ?_
  | refine Go.sub ?_
  | refine Go.retN ?_
  | refine Go.lst ?_
  | refine Go.lstR ?_
  | refine Go.truI ?_
  | refine Go.truN ?_
  | refine Go.vOf' ?_
  | refine Go.vNot' ?_
  | refine Go.is' ?_
  | refine Go.isNot' ?_
  | refine Go.chain ?_
  | refine Go.neg ?_
  | refine Go.neg' ?_
  | refine Go.abs' ?_
  | refine Go.lenT ?_
  | refine Go.lenL ?_
  | refine Go.max' ?_
  | refine Go.min' ?_
  | refine Go.intI ?_
  | refine Go.intB ?_
  | refine Go.tupL ?_
  | refine Go.tupT ?_
  | refine Go.isi ?_
  | refine Go.iVal' ?_
  | refine Go.iValT ?_
  | refine Go.iValL ?_
  | refine Go.r1 ?_
  | refine Go.r2 ?_
  | refine Go.star ?_
  | refine Go.l_cons ?_
  | refine Go.l_nil ?_
  | refine Go.enum' ?_
  | refine Go.rev' ?_
  | refine Go.zip' ?_
  | refine Go.wipe_nil ?_
  | refine Go.wipe_cons ?_
  | refine Go.iadd ?_
  | refine Go.sl ?_
  | refine Go.oN ?_
  | refine Go.oS ?_
  | refine Go.osK' ?_
  | refine Go.getL ?_
  | refine Go.lc ?_
  | refine Go.lcR ?_
  | refine Go.lg_nil ?_
  | refine Go.lg_cons ?_
  | refine Go.yes ?_
  | refine Go.for_nil ?_
  | refine Go.for_cons ?_
  | refine Go.revT ?_
  | refine Go.revL ?_
  | refine Go.zipT ?_
  | refine Go.zipL ?_
  | refine Go.lstK' rfl ?_
  | refine Go.lcL rfl ?_
  | refine Go.getLL' rfl ?_
  | refine Go.addT rfl ?_
  | (refine Go.gAug ?_; first | refine Go.aug0 ?_ | refine Go.aug1 ?_ | refine Go.aug2 ?_ | refine Go.aug3 ?_ | refine Go.aug4 ?_ | refine Go.aug5 ?_ | refine Go.aug6 ?_ | refine Go.aug7 ?_ | refine Go.aug8 ?_ | refine Go.aug9 ?_ | refine Go.aug10 ?_ | refine Go.aug11 ?_ | refine Go.aug12 ?_ | refine Go.aug13 ?_ | refine Go.aug14 ?_ | refine Go.aug15 ?_ | refine Go.aug16 ?_ | refine Go.aug17 ?_ | refine Go.aug18 ?_ | refine Go.aug19 ?_ | refine Go.aug20 ?_ | refine Go.aug21 ?_ | refine Go.aug22 ?_ | refine Go.aug23 ?_)
  | (refine Go.gStar ?_; first | refine Go.startup0 ?_ | refine Go.starlst0 ?_ | refine Go.startup1 ?_ | refine Go.starlst1 ?_ | refine Go.startup2 ?_ | refine Go.starlst2 ?_ | refine Go.startup3 ?_ | refine Go.starlst3 ?_ | refine Go.startup4 ?_ | refine Go.starlst4 ?_ | refine Go.startup_2 ?_ | refine Go.starlst_2 ?_ | refine Go.startup_3 ?_ | refine Go.starlst_3 ?_ | refine Go.startup_4 ?_ | refine Go.starlst_4 ?_)
  | refine Go.slfT1 ?_ | refine Go.sltT1 ?_ | refine Go.slfL1 ?_ | refine Go.sltL1 ?_ | refine Go.slfT2 ?_ | refine Go.sltT2 ?_ | refine Go.slfL2 ?_ | refine Go.sltL2 ?_ | refine Go.slfT3 ?_ | refine Go.sltT3 ?_ | refine Go.slfL3 ?_ | refine Go.sltL3 ?_ | refine Go.slfT4 ?_ | refine Go.sltT4 ?_ | refine Go.slfL4 ?_ | refine Go.sltL4 ?_
  | (refine Go.gUns ?_; first | refine Go.uns0 ?_ | refine Go.uns1 ?_ | refine Go.uns2 ?_ | refine Go.uns3 ?_ | refine Go.uns4 ?_ | refine Go.uns5 ?_ | refine Go.uns6 ?_ | refine Go.uns7 ?_ | refine Go.uns8 ?_ | refine Go.uns9 ?_ | refine Go.uns10 ?_ | refine Go.uns11 ?_ | refine Go.uns12 ?_ | refine Go.uns13 ?_ | refine Go.uns14 ?_ | refine Go.uns15 ?_ | refine Go.uns16 ?_ | refine Go.uns17 ?_ | refine Go.uns18 ?_ | refine Go.uns19 ?_ | refine Go.uns20 ?_ | refine Go.uns21 ?_ | refine Go.uns22 ?_ | refine Go.uns23 ?_)
  | refine Go.entup0 ?_ | refine Go.enlst0 ?_ | refine Go.entup1 ?_ | refine Go.enlst1 ?_ | refine Go.entup2 ?_ | refine Go.enlst2 ?_ | refine Go.entup3 ?_ | refine Go.enlst3 ?_ | refine Go.entup4 ?_ | refine Go.enlst4 ?_ | refine Go.entup5 ?_ | refine Go.enlst5 ?_ | refine Go.entup6 ?_ | refine Go.enlst6 ?_)))
local macro_rules | `(tactic| walk_at "bl1") => `(tactic| first | walk_at "bl0" | walk_at "blz" | ((with_reducible refine Go.gEqS ?_); (first | refine Go.eqS (b := true) ⟨rfl, by decide +kernel⟩ ⟨rfl, by decide +kernel⟩ rfl ?_ | refine Go.eqS (b := false) ⟨rfl, by decide +kernel⟩ ⟨rfl, by decide +kernel⟩ rfl ?_)) | ((with_reducible refine Go.gNeS ?_); (first | refine Go.neS (b := true) ⟨rfl, by decide +kernel⟩ ⟨rfl, by decide +kernel⟩ rfl ?_ | refine Go.neS (b := false) ⟨rfl, by decide +kernel⟩ ⟨rfl, by decide +kernel⟩ rfl ?_)) | ((with_reducible refine Go.gAll ?_); (refine Go.allB (by rfl) ?_)) | ((with_reducible refine Go.gIxT ?_); (refine Go.ixT (by rfl) ?_)) | ((with_reducible refine Go.gIxL ?_); (refine Go.ixL (by rfl) ?_)))
local macro_rules | `(tactic| walk_at "bl") => `(tactic| (repeat walk_at "bl1"))
namespace Lb
open PySem PySem.Spec PyProof.Rows L2 Bl
/-! ### points, things, faces -/
abbrev P2 := Int × Int
abbrev pt (p : P2) : D := .tup [.int p.1, .int p.2]
inductive Th where
  | spot (p : P2)
  | cord (p q : P2)
  | bow (c p q : P2)
inductive Fc where
  | side (a b : P2)
  | round (c : P2) (r : Int) (f l : P2)
def thD : Th → D
  | .spot p => .tup [.str "spot", pt p]
  | .cord p q => .tup [.str "cord", pt p, pt q]
  | .bow c p q => .tup [.str "bow", pt c, pt p, pt q]
def Bd (p : P2) : Prop := p.1.natAbs ≤ 1000 ∧ p.2.natAbs ≤ 1000
def dif (a b : P2) : P2 := (a.1 - b.1, a.2 - b.2)
def dot (a b : P2) : Int := a.1 * b.1 + a.2 * b.2
def crs (a b : P2) : Int := a.1 * b.2 - a.2 * b.1
def far (a b : P2) : Int := dot (dif a b) (dif a b)
def Whole (n : Int) : Prop := ∃ r : Int, 0 ≤ r ∧ n = r * r
structure BowOk (c p q : P2) : Prop where
  ne : p ≠ q
  eq : far c p = far c q
  wr : Whole (far c p)
  wd : Whole (far p q)
  tn : 0 ≤ crs (dif p c) (dif q c)
def GoodTh : Th → Prop
  | .spot p => Bd p
  | .cord p q => Bd p ∧ Bd q ∧ p ≠ q ∧ Whole (far p q)
  | .bow c p q => Bd c ∧ Bd p ∧ Bd q ∧ BowOk c p q
theorem step_spec {a b : P2} {S : Sto} {Q : DK} {E : EK} (k : Q (pt (dif a b)) S) : m_step_from [pt a, pt b] S Q E := by
  refine e_step_from ?_
  unfold t_step_from
  walk_at "bl"
  exact k
theorem sm_dif {a b : P2} (ha : Bd a) (hb : Bd b) : sm 12 (dif a b).1 ∧ sm 12 (dif a b).2 := by
  obtain ⟨a1, a2⟩ := ha
  obtain ⟨b1, b2⟩ := hb
  unfold dif sm
  exact ⟨by show (a.1 - b.1).natAbs < _; omega, by show (a.2 - b.2).natAbs < _; omega⟩
theorem far_eq (a b : P2) : far a b = (a.1 - b.1) * (a.1 - b.1) + (a.2 - b.2) * (a.2 - b.2) := rfl
theorem sm_far {a b : P2} (ha : Bd a) (hb : Bd b) : sm 25 (far a b) := by
  obtain ⟨s1, s2⟩ := sm_dif ha hb
  exact ((s1.mul s1).add (s2.mul s2)).mono (by decide)
theorem far_nonneg (a b : P2) : 0 ≤ far a b := by
  have h : ∀ x : Int, 0 ≤ x * x := fun x => by
    rcases Int.le_total 0 x with z | z
    · exact Int.mul_nonneg z z
    · exact Int.mul_nonneg_of_nonpos_of_nonpos z z
  rw [far_eq]
  exact Int.add_nonneg (h _) (h _)
theorem sq0 {x : Int} (h : x * x = 0) : x = 0 := by
  rcases Int.mul_eq_zero.mp h with z | z <;> exact z
theorem far_zero {a b : P2} (h : far a b = 0) : a = b := by
  rw [far_eq] at h
  have h1 : ∀ x : Int, 0 ≤ x * x := fun x => by
    rcases Int.le_total 0 x with z | z
    · exact Int.mul_nonneg z z
    · exact Int.mul_nonneg_of_nonpos_of_nonpos z z
  have a1 := h1 (a.1 - b.1)
  have a2 := h1 (a.2 - b.2)
  have b1 := sq0 (x := a.1 - b.1) (by omega)
  have b2 := sq0 (x := a.2 - b.2) (by omega)
  exact Prod.ext (by omega) (by omega)
theorem far_self (a : P2) : far a a = 0 := by
  rw [far_eq]
  simp
theorem BowOk.np {c p q : P2} (h : BowOk c p q) : p ≠ c ∧ q ≠ c := by
  have e := h.eq
  refine ⟨fun z => ?_, fun z => ?_⟩
  · rw [z, far_self] at e
    exact h.ne (z.trans (far_zero e.symm))
  · rw [z, far_self] at e
    exact h.ne ((far_zero e).symm.trans z.symm)
theorem far_square_spec {a b : P2} {S : Sto} {Q : DK} {E : EK} (ha : Bd a) (hb : Bd b) (k : Q (.int (far a b)) S) : m_far_square [pt a, pt b] S Q E := by
  refine e_far_square ?_
  unfold t_far_square
  obtain ⟨s1, s2⟩ := sm_dif ha hb
  walk_at "bl"
  refine Go.pow2 (n := 12) s1 (by decide) ?_
  walk_at "bl"
  refine Go.pow2 (n := 12) s2 (by decide) ?_
  walk_at "bl"
  exact k
/-! the law's faces -/
end Lb

namespace Lb
open PySem PySem.Spec PyProof.Rows L2 Bl
/-! ### the drawn things -/
def rot : Nat → P2 → P2
  | 0, p => p
  | n + 1, p => (0 - (rot n p).2, (rot n p).1)
def plus2 (a b : P2) : P2 := (a.1 + b.1, a.2 + b.2)
theorem rot_dot (u v : P2) : ∀ n : Nat, dot (rot n u) (rot n v) = dot u v
  | 0 => rfl
  | n + 1 => by
    rw [← rot_dot u v n]
    unfold dot
    show (0 - (rot n u).2) * (0 - (rot n v).2) + (rot n u).1 * (rot n v).1 = _
    grind
theorem rot_crs (u v : P2) : ∀ n : Nat, crs (rot n u) (rot n v) = crs u v
  | 0 => rfl
  | n + 1 => by
    rw [← rot_crs u v n]
    unfold crs
    show (0 - (rot n u).2) * (rot n v).1 - (rot n u).1 * (0 - (rot n v).2) = _
    grind
theorem far_plus (b u v : P2) : far (plus2 b u) (plus2 b v) = dot u u - 2 * dot u v + dot v v := by
  unfold far dif dot plus2
  dsimp only
  grind
theorem far_plus0 (b u : P2) : far b (plus2 b u) = dot u u := by
  unfold far dif dot plus2
  dsimp only
  grind
theorem dif_plus0 (b u : P2) : dif (plus2 b u) b = u := by
  unfold dif plus2
  dsimp only
  exact Prod.ext (by omega) (by omega)
theorem BowOk.mk' {b u v : P2} {n : Nat} {r d : Int} (h1 : dot u u = r * r) (h2 : dot v v = r * r) (hr : 0 ≤ r) (h3 : dot u u - 2 * dot u v + dot v v = d * d) (hd : 0 < d) (h4 : 0 ≤ crs u v) : BowOk b (plus2 b (rot n u)) (plus2 b (rot n v)) := by
  have e : far (plus2 b (rot n u)) (plus2 b (rot n v)) = d * d := by rw [far_plus, rot_dot, rot_dot, rot_dot, h3]
  refine ⟨fun z => ?_, ?_, ⟨r, hr, ?_⟩, ⟨d, by omega, e⟩, ?_⟩
  · rw [z, far_self] at e
    have := Int.mul_pos hd hd
    omega
  · rw [far_plus0, far_plus0, rot_dot, rot_dot, h1, h2]
  · rw [far_plus0, rot_dot, h1]
  · rw [dif_plus0, dif_plus0, rot_crs]
    exact h4
theorem rot_bd {u : P2} {m : Nat} (h1 : u.1.natAbs ≤ m) (h2 : u.2.natAbs ≤ m) : ∀ n : Nat, (rot n u).1.natAbs ≤ m ∧ (rot n u).2.natAbs ≤ m
  | 0 => ⟨h1, h2⟩
  | n + 1 => by
    obtain ⟨a, b⟩ := rot_bd h1 h2 n
    exact ⟨by show (0 - (rot n u).2).natAbs ≤ m; omega, a⟩
def PIn (m : Nat) (p : P2) : Prop := p.1.natAbs ≤ m ∧ p.2.natAbs ≤ m
def TIn (m : Nat) : Th → Prop
  | .spot p => PIn m p
  | .cord p q => PIn m p ∧ PIn m q
  | .bow c p q => PIn m c ∧ PIn m p ∧ PIn m q
theorem PIn.bd {m : Nat} {p : P2} (h : PIn m p) (hm : m ≤ 1000) : Bd p := ⟨Nat.le_trans h.1 hm, Nat.le_trans h.2 hm⟩
theorem plus_in {b u : P2} {m n : Nat} (h : PIn m b) (h' : PIn n u) : PIn (m + n) (plus2 b u) := by
  unfold PIn plus2 at *
  dsimp only
  omega
/-- how a thing is drawn -/
structure Shape (x y r : Int) : Prop where
  e : x * x + y * y = r * r
  x0 : 0 < x
  x1 : x ≤ 15
  y0 : 0 ≤ y
  y1 : y ≤ 15
  r0 : 0 < r
end Lb

namespace Lb
open PySem PySem.Spec PyProof.Rows L2 Bl
def t_cross_of : TSd := sRet (dTwo (dTwo (dTwo (vr 0) (cn (.int 0)) fIx) (dTwo (vr 1) (cn (.int 1)) fIx) fMul) (dTwo (dTwo (vr 0) (cn (.int 1)) fIx) (dTwo (vr 1) (cn (.int 0)) fIx) fMul) fSub)
def m_cross_of : TFd := fnD 2 2 t_cross_of
theorem e_cross_of {a0 a1 : D} {S : Sto} {Q : DK} {E : EK} (k : t_cross_of [some a0, some a1] S ⟨fun _ S1 => Q .non S1, Q, fun _ _ => False, fun _ _ => False, fun x _ S1 => E x S1⟩) : m_cross_of [a0, a1] S Q E := ⟨rfl, k⟩
end Lb

namespace Lb
open PySem PySem.Spec PyProof.Rows L2 Bl
/-! ### directions, quarters, how long faces are -/
theorem cross_spec {a b : P2} {n : Nat} {S : Sto} {Q : DK} {E : EK} (a1 : sm n a.1) (a2 : sm n a.2) (b1 : sm n b.1) (b2 : sm n b.2) (hn : n ≤ 4000) (k : Q (.int (crs a b)) S) : m_cross_of [pt a, pt b] S Q E := by
  refine e_cross_of ?_
  unfold t_cross_of
  walk_at "bl"
  refine Go.mul (a1.cmul b2 (by omega)) ?_
  walk_at "bl"
  refine Go.mul (a2.cmul b1 (by omega)) ?_
  walk_at "bl"
  exact k
/-- a direction of a whole length -/
structure DirOk (n : Nat) (v : P2) : Prop where
  ne : v ≠ (0, 0)
  w : Whole (dot v v)
  s1 : sm n v.1
  s2 : sm n v.2
theorem rot_ne {v : P2} (h : v ≠ (0, 0)) : ∀ n : Nat, rot n v ≠ (0, 0)
  | 0 => h
  | n + 1 => fun z => rot_ne h n (by
    have h1 : 0 - (rot n v).2 = 0 := congrArg Prod.fst z
    have h2 : (rot n v).1 = 0 := congrArg Prod.snd z
    exact Prod.ext h2 (by show (rot n v).2 = 0; omega))
theorem rot_sm {v : P2} {m : Nat} (h1 : sm m v.1) (h2 : sm m v.2) : ∀ n : Nat, sm m (rot n v).1 ∧ sm m (rot n v).2
  | 0 => ⟨h1, h2⟩
  | n + 1 => by
    obtain ⟨a, b⟩ := rot_sm h1 h2 n
    exact ⟨by show sm m (0 - (rot n v).2); unfold sm at *; omega, a⟩
theorem DirOk.rot {m : Nat} {v : P2} (h : DirOk m v) (n : Nat) : DirOk m (rot n v) := ⟨rot_ne h.ne n, by rw [rot_dot]; exact h.w, (rot_sm h.s1 h.s2 n).1, (rot_sm h.s1 h.s2 n).2⟩
theorem Whole.isq {n : Int} (h : Whole n) : (isq n.toNat : Int) * isq n.toNat = n := by
  obtain ⟨r, r0, rfl⟩ := h
  obtain ⟨m, rfl⟩ := Int.eq_ofNat_of_zero_le r0
  have e : ((m : Int) * m).toNat = m * m := by
    have : ((m : Int) * m) = ((m * m : Nat) : Int) := by push_cast; rfl
    rw [this, Int.toNat_natCast]
  rw [e, isq_sq]
def lenq (v : P2) : Int := isq (dot v v).toNat
/-- whether less than a quarter lies between -/
def cnd (h l : P2) : Prop := 0 ≤ crs h l ∧ 0 < dot h l
instance (h l : P2) : Decidable (cnd h l) := by unfold cnd; infer_instance
/-- how many quarters, of unlike directions -/
def qk (f l : P2) : Nat := if f = l then 4 else if cnd f l then 0 else if cnd (rot 1 f) l then 1 else if cnd (rot 2 f) l then 2 else 3
theorem pt_eq (a b : P2) : eqD (pt a) (pt b) = decide (a = b) := by
  show (a.1 == b.1 && (a.2 == b.2 && true)) = _
  rw [Bool.eq_iff_iff]
  simp only [Bool.and_eq_true, beq_iff_eq, and_true, decide_eq_true_eq]
  exact ⟨fun h => Prod.ext h.1 h.2, fun h => by rw [h]; exact ⟨rfl, rfl⟩⟩
theorem ok_pt (a : P2) : okD (pt a) := ⟨rfl, rfl⟩
theorem eq_pt {a b : P2} {S : Sto} {Q : DK} (k : Q (.bl (decide (a = b))) S) : fEq (pt a) (pt b) S Q := ⟨ok_pt _, ok_pt _, by rw [pt_eq]; exact k⟩
/-- how long a round is: its quarters, and the sine by one and the cosine of the rest -/
def restR (h l : P2) : Rat := (crs h l : Int) / ((lenq h * lenq l + dot h l : Int) : Rat)
def lenR : Fc → Rat
  | .side _ _ => 1
  | .round _ _ f l => (qk f l : Int) + restR (rot (qk f l) f) l
/-- a loop over made items -/
theorem forD_map {α : Type} {f : α → D} {g : Tg} {b : TSd} {N : Nd} (P : List α → Ev → Sto → Prop) (turn : ∀ x xs env S, P (x :: xs) env S → ∃ e1, asgT S g (f x) env = some e1 ∧ ∀ N' : Nd, (∀ e s, P xs e s → N'.nx e s) → (∀ e s, P xs e s → N'.ct e s) → N'.rt = N.rt → N'.bk = N.nx → N'.ex = N.ex → b e1 S N') (fin : ∀ env S, P [] env S → N.nx env S) : ∀ (xs : List α) {env : Ev} {S : Sto}, P xs env S → forD g b (xs.map f) env S N
  | [], env, S, h => fin env S h
  | x :: xs, env, S, h => by
    obtain ⟨e1, ea, hb⟩ := turn x xs env S h
    rw [List.map_cons]
    unfold forD
    rw [ea]
    exact hb _ (fun e s q => forD_map P turn fin xs q) (fun e s q => forD_map P turn fin xs q) rfl rfl rfl
/-! the faces are good -/
end Lb

namespace Lb
open PySem PySem.Spec PyProof.Rows L2 Bl
def t_is_whole : TSd := sRet (eIf (tbl (dIsi "int" (vr 0))) (vNot (dIsi "bool" (vr 0))) (cn (.bl false)))
def m_is_whole : TFd := fnD 1 1 t_is_whole
theorem e_is_whole {a0 : D} {S : Sto} {Q : DK} {E : EK} (k : t_is_whole [some a0] S ⟨fun _ S1 => Q .non S1, Q, fun _ _ => False, fun _ _ => False, fun x _ S1 => E x S1⟩) : m_is_whole [a0] S Q E := ⟨rfl, k⟩
def t_is_row : TSd := sRet (eIf (tbl (dIsi "tuple" (vr 0))) (dTwo (dB bLen (aCons (vr 0) (aNil))) (vr 1) fEq) (cn (.bl false)))
def m_is_row : TFd := fnD 2 2 t_is_row
theorem e_is_row {a0 a1 : D} {S : Sto} {Q : DK} {E : EK} (k : t_is_row [some a0, some a1] S ⟨fun _ S1 => Q .non S1, Q, fun _ _ => False, fun _ _ => False, fun x _ S1 => E x S1⟩) : m_is_row [a0, a1] S Q E := ⟨rfl, k⟩
def t_are_whole : TSd := sRet (eIf (tbl (dCall m_is_row 2 0 (fun ds _ => ds) (aCons (vr 0) (aCons (vr 1) (aNil))) aNil)) (dB bAll (aCons (dLc (iVal (vr 0)) (.nm 3) (tYesD) (dCall m_is_whole 1 0 (fun ds _ => ds) (aCons (vr 3) (aNil)) aNil) [2, 3]) (aNil))) (cn (.bl false)))
def m_are_whole : TFd := fnD 2 4 t_are_whole
theorem e_are_whole {a0 a1 : D} {S : Sto} {Q : DK} {E : EK} (k : t_are_whole [some a0, some a1, none, none] S ⟨fun _ S1 => Q .non S1, Q, fun _ _ => False, fun _ _ => False, fun x _ S1 => E x S1⟩) : m_are_whole [a0, a1] S Q E := ⟨rfl, k⟩
end Lb

local macro_rules | `(tactic| walk_at "blz") => `(tactic| (with_reducible (first | refine Go.zipS' ?_ | refine Go.zipR' ?_ | refine Go.seqT ?_ | refine Go.seqL ?_ | refine Go.zipST rfl ?_ | refine Go.zipSL rfl ?_ | refine Go.for_zc ?_ | refine Go.for_zn ?_ | refine Go.lg_zc ?_ | refine Go.lg_zn ?_)))
namespace Lb
open PySem PySem.Spec PyProof.Rows L2 Bl
/-! ### what is grown anew -/
def Up (S S' : Sto) : Prop := ∀ b, S b ≠ none → S' b = S b
theorem Up.refl (S : Sto) : Up S S := fun _ _ => rfl
theorem Up.trans {S S1 S2 : Sto} (h : Up S S1) (k : Up S1 S2) : Up S S2 := fun b hb => by rw [k b (by rw [h b hb]; exact hb), h b hb]
theorem Up.sup {S S1 : Sto} {a : Addr} {ds : List D} (h : Up S S1) (n : S a = none) : Up S (sup S1 a ds) := fun b hb => by
  rw [sup_ne (fun z => hb (by rw [z]; exact n))]
  exact h b hb
theorem Bg.up {S S1 : Sto} {a : Addr} (h : Bg S a) (u : Up S S1) : Bg S1 a := by
  obtain ⟨c, m, e, r⟩ := h
  exact ⟨c, m, by rw [u a (by rw [e]; simp)]; exact e, r⟩
/-! ### fractions of any two sizes -/
/-! ### how far round: quarters and the rest -/
end Lb

namespace Bl
open PySem PySem.Spec PyProof.Rows L2 Bl Lb
def fig (c : Nat) : Bool := decide (48 ≤ c) && decide (c ≤ 57)
/-- the figures of a word, a minus ahead left out -/
def figs (l : List Nat) : List Nat := match l with
  | 45 :: r => r
  | r => r
def wholeOk (l : List Nat) : Bool := !(figs l).isEmpty && ((figs l).all fig && !(decide ((figs l).head? = some 48) && !decide (l = [48])))
theorem sw_minus (l : List Nat) : Txt.startswith (SX.S l) (Str.ofString "-") = decide (l.head? = some 45) := by
  cases l with
  | nil => rfl
  | cons a r =>
    unfold Txt.startswith Builtin.Str.subAt
    have e : (Str.ofString "-").length = 1 := rfl
    rw [e]
    simp [Str.length]
    have e2 : (Str.ofString "-").cps = #[45] := rfl
    rw [e2]
    rw [Bool.eq_iff_iff]
    simp
theorem cut_from (l : List Nat) (k : Nat) (h : k ≤ l.length) : cutS (SX.S l) (some (k : Int)) none = SX.S (l.drop k) := by
  unfold cutS
  rw [show (SX.S l).cps.toList = l from by simp, HT.sIx_none, HT.sIx_nat, SX.S_len, Nat.min_eq_left h]
  rw [List.take_of_length_le (by rw [List.length_drop]; omega)]
theorem cut_to (l : List Nat) (k : Nat) (h : k ≤ l.length) : cutS (SX.S l) none (some (k : Int)) = SX.S (l.take k) := by
  unfold cutS
  rw [show (SX.S l).cps.toList = l from by simp, HT.sIx_none, HT.sIx_nat, SX.S_len, Nat.min_eq_left h, List.drop_zero, Nat.sub_zero]
def Sm (l : List Nat) : Prop := l.length ≤ 640 ∧ ∀ c ∈ l, c < 128
theorem ok_S {l : List Nat} (h : ∀ c ∈ l, c < 128) : okD (.str (SX.S l)) := by
  refine ⟨rfl, ?_⟩
  show (PyData.strOk (SX.S l) && decide ((0 : Nat) ≤ 64)) = true
  have : PyData.strOk (SX.S l) = true := by
    unfold PyData.strOk
    rw [← Array.all_toList, show (SX.S l).cps.toList = l from by simp, List.all_eq_true]
    intro c hc
    exact decide_eq_true (Nat.lt_trans (h c hc) (by decide))
  rw [this]
  rfl
theorem eq_S (a b : List Nat) : eqD (.str (SX.S a)) (.str (SX.S b)) = decide (a = b) := by
  show PyData.eqv (.str (SX.S a)) (.str (SX.S b)) = _
  rw [← SX.S_beq_eq]
  rfl
/-- a comprehension without a test, each item's value told, the store as it was -/
theorem lcGo_map {α : Type} {te : TEd} {i : Nat} {env : Ev} {S : Sto} {g : α → D} (f : α → D) : ∀ {ds : List α} {Q : List D → Sto → Prop}, (∀ d ∈ ds, ∀ R : DK, R (f d) S → te (env.set i (some (g d))) S R EF) → Q (ds.map f) S → lcGo (.nm i) tYesD te env (ds.map g) S Q
  | [], _, _, q => q
  | d :: ds, Q, h, q => by
    have z := h d (List.mem_cons_self ..) (fun y S2 => lcGo (.nm i) tYesD te env (ds.map g) S2 fun ys S3 => Q (y :: ys) S3) (lcGo_map f (fun d' hd => h d' (List.mem_cons_of_mem _ hd)) q)
    exact z
theorem fig_in (c : Nat) : decide (c ∈ (Str.ofString "0123456789").cps.toList) = fig c := by
  have e : (Str.ofString "0123456789").cps.toList = [48, 49, 50, 51, 52, 53, 54, 55, 56, 57] := rfl
  rw [e]
  unfold fig
  rw [← Bool.decide_and, decide_eq_decide]
  simp only [List.mem_cons, List.not_mem_nil, or_false]
  omega
theorem in_fig {c : Nat} {S : Sto} {Q : DK} (k : Q (.bl (fig c)) S) : fIn false (.str ⟨#[c]⟩) (.str (Str.ofString "0123456789")) S Q := by
  show Q (.bl (xor false (!(Builtin.Str.occurrences (Str.ofString "0123456789") ⟨#[c]⟩ 0 (Str.ofString "0123456789").length 1).isEmpty))) S
  rw [StrLaws.found_one, fig_in, Bool.false_xor]
  exact k
theorem bls_map (f : Nat → Bool) : ∀ l : List Nat, blsOf (l.map fun c => D.bl (f c)) = some (l.map f)
  | [] => rfl
  | c :: l => by
    show (blsOf (l.map fun c => D.bl (f c))).map (f c :: ·) = _
    rw [bls_map f l]
    rfl
theorem gmt {f : F2} {to te : TEd} {env : Ev} {S : Sto} {Q : DK} {E : EK} (k : to env S (fun x S1 => isTx x ∧ te env S1 (fun y S2 => f x y S2 Q) E) E) : dMt f to te env S Q E := k
theorem gtx {a : Str} {p : Prop} (k : p) : isTx (.str a) ∧ p := ⟨⟨a, rfl⟩, k⟩
theorem gsw {a b : Str} {S : Sto} {Q : DK} (k : Q (.bl (Txt.startswith a b)) S) : fSw (.str a) (.str b) S Q := k
def wholeV (l : List Nat) : Int := match l with
  | 45 :: r => -((NumText.digitsVal r : Nat) : Int)
  | r => ((NumText.digitsVal r : Nat) : Int)
def wholeIn (l : List Nat) : Option Int := if wholeOk l then some (wholeV l) else none
def oD : Option Int → D
  | some n => .int n
  | none => .non
theorem figs_minus (l : List Nat) : figs l = if l.head? = some 45 then l.drop 1 else l := by
  unfold figs
  split
  · rfl
  · rename_i h
    rw [if_neg]
    intro z
    cases l with
    | nil => cases z
    | cons a r =>
      cases z
      exact h r rfl
theorem int_ok {l : List Nat} (hs : Sm l) (h : wholeOk l = true) : PySem.intText? (SX.S l) = some (wholeV l) := by
  unfold wholeOk at h
  have hf : (figs l).all fig = true ∧ figs l ≠ [] := by
    obtain ⟨h1, h2⟩ := Bool.and_eq_true_iff.mp h
    obtain ⟨h2, _⟩ := Bool.and_eq_true_iff.mp h2
    refine ⟨h2, fun z => ?_⟩
    rw [z] at h1
    cases h1
  have hd : ∀ c ∈ figs l, 48 ≤ c ∧ c ≤ 57 := fun c hc => by
    have := List.all_eq_true.mp hf.1 c hc
    unfold fig at this
    rw [Bool.and_eq_true, decide_eq_true_eq, decide_eq_true_eq] at this
    exact this
  have hl : (SX.S l).length ≤ 4300 := by rw [SX.S_len]; have := hs.1; omega
  unfold wholeV
  split
  · rename_i r
    exact PySem.intText_neg (x := SX.S (45 :: r)) (cs := r) (by simp) (fun c hc => hd c hc) hf.2 hl
  · rename_i h0
    have e : figs l = l := by
      unfold figs
      split
      · rename_i r
        exact absurd rfl (h0 r)
      · rfl
    rw [e] at hd hf
    have z := PySem.intText_digits (x := SX.S l) (fun c hc => hd c (by simpa using hc)) (by simpa using hf.2) hl
    simpa using z

section
variable {env : Ev} {S : Sto} {Q : DK} {E : EK}
def strK (d : D) (S1 : Sto) (Q : List D → Sto → Prop) : Prop := match d with
  | .str x => Q (sgn x) S1
  | _ => False
theorem gist {te : TEd} {Q : List D → Sto → Prop} (k : te env S (fun d S1 => strK d S1 Q) E) : iStrD te env S Q E := k
theorem gist' {l : List Nat} {Q : List D → Sto → Prop} (k : Q (l.map fun c => D.str ⟨#[c]⟩) S) : strK (.str (SX.S l)) S Q := by
  unfold strK
  dsimp only
  unfold sgn
  rw [show (SX.S l).cps.toList = l from by simp]
  exact k
def fmtK (d : D) (S1 : Sto) (Q : DK) : Prop := match d with
  | .str y => y.length ≤ sizeLine ∧ Q (.str y) S1
  | .int i => i.natAbs.log2 < 1920 ∧ Q (.str (toString i)) S1
  | _ => False
theorem gfmt {t : TEd} (k : t env S (fun d S1 => fmtK d S1 Q) E) : dFmt t env S Q E := k
theorem gfmt_i {i : Int} (h : i.natAbs.log2 < 1920) (k : Q (.str (toString i)) S) : fmtK (.int i) S Q := ⟨h, k⟩
theorem gjn {ts : List TEd} (k : dJs ts Str.empty env S (fun out S1 => Q (.str out) S1) E) : dJoined ts env S Q E := k
def jsK (ts : List TEd) (acc : Str) (env : Ev) (d : D) (S1 : Sto) (Q : Str → Sto → Prop) (E : EK) : Prop := match d with
  | .str y => (acc ++ y).length ≤ sizeLine ∧ dJs ts (acc ++ y) env S1 Q E
  | _ => False
theorem js_nil {acc : Str} {Q : Str → Sto → Prop} (k : Q acc S) : dJs [] acc env S Q E := k
theorem js_cons {t : TEd} {ts : List TEd} {acc : Str} {Q : Str → Sto → Prop} (k : t env S (fun d S1 => jsK ts acc env d S1 Q E) E) : dJs (t :: ts) acc env S Q E := k
theorem js_k {ts : List TEd} {a b : List Nat} {Q : Str → Sto → Prop} (h : (a ++ b).length ≤ 16777216) (k : dJs ts (SX.S (a ++ b)) env S Q E) : jsK ts (SX.S a) env (.str (SX.S b)) S Q E := by
  refine ⟨?_, ?_⟩
  · rw [SX.S_cat, SX.S_len]
    exact h
  · rw [SX.S_cat]
    exact k
theorem split_k {a : List Nat} {c : Nat} (hc : c < 256) (hl : a.length ≤ 640) (k : Q (.lst ((TL.spl [c] 0 [] a).map fun l => D.str (SX.S l))) S) : fSplit (.str (SX.S a)) (.str (SX.S [c])) S Q := by
  refine ⟨rfl, ?_, ?_⟩
  · rw [SX.S_len]
    exact Nat.le_trans (show a.length + 2 ≤ 642 by omega) (by decide)
  · rw [SX.split_S (List.cons_ne_nil _ _) (by simp [hc]), List.map_map]
    exact k
theorem join_k {c : Nat} {ys : List (List Nat)} (h : (ys.map (·.length)).sum + ys.length ≤ 100000) (k : Q (.str (SX.S (TL.joinL [c] ys))) S) : fJoin (.str (SX.S [c])) (.lst (ys.map fun l => D.str (SX.S l))) S Q := by
  refine ⟨ys.map SX.S, by rw [List.map_map]; rfl, ?_, ?_⟩
  · rw [SX.lens, List.length_map, SX.S_len]
    show _ + ys.length * 1 ≤ _
    omega
  · rw [SX.join_S]
    exact k
/-- the text of a whole number -/
def intL (i : Int) : List Nat := if i < 0 then 45 :: TL.numL i.natAbs else TL.numL i.natAbs
theorem int_str (i : Int) : Str.ofString (toString i) = SX.S (intL i) := by
  unfold intL
  cases i with
  | ofNat m => exact SX.num_S m
  | negSucc m =>
    rw [if_pos (Int.negSucc_lt_zero m)]
    have e : toString (Int.negSucc m) = "-" ++ Nat.repr (m + 1) := rfl
    have e2 : Str.ofString (toString (((m + 1 : Nat)) : Int)) = SX.S (TL.numL (m + 1)) := SX.num_S (m + 1)
    have e3 : toString (((m + 1 : Nat)) : Int) = Nat.repr (m + 1) := rfl
    rw [e3] at e2
    rw [e]
    have e4 : Str.ofString ("-" ++ Nat.repr (m + 1)) = Str.ofString "-" ++ Str.ofString (Nat.repr (m + 1)) := by
      refine TL.ext_tl ?_
      rw [TL.tl_append, TL.tl_ofString, TL.tl_ofString, TL.tl_ofString, String.toList_append, List.map_append]
    rw [e4, e2]
    show SX.S [45] ++ _ = _
    rw [SX.S_cat]
    rfl
end
end Bl

namespace Bl
open PySem PySem.Spec PyProof.Rows L2 Bl Lb
/-! plain: whole numbers, fractions, places as texts -/
theorem pre_one (c x : Nat) (r : List Nat) : TL.pre [c] (x :: r) = decide (x = c) := by
  unfold TL.pre
  show ((x :: r).take 1 == [c]) = _
  rw [Bool.eq_iff_iff]
  simp
theorem par_has {c : Nat} : ∀ {l acc p q : List Nat}, TL.par [c] acc l = some (p, q) → ∃ m, p = acc ++ m ∧ l = m ++ c :: q ∧ c ∉ m
  | [], acc, p, q, h => by cases h
  | x :: r, acc, p, q, h => by
    by_cases hx : x = c
    · rw [TL.par_hit (by rw [pre_one]; exact decide_eq_true hx)] at h
      cases h
      exact ⟨[], by simp, by rw [hx]; rfl, by simp⟩
    · rw [TL.par_miss (by rw [pre_one]; exact decide_eq_false hx)] at h
      obtain ⟨m, e1, e2, e3⟩ := par_has h
      refine ⟨x :: m, by rw [e1]; simp, by rw [e2]; rfl, ?_⟩
      intro z
      rcases List.mem_cons.mp z with z | z
      · exact hx z.symm
      · exact e3 z
theorem par_lacks {c : Nat} : ∀ {l acc : List Nat}, TL.par [c] acc l = none → c ∉ l
  | [], acc, h => by simp
  | x :: r, acc, h => by
    by_cases hx : x = c
    · rw [TL.par_hit (by rw [pre_one]; exact decide_eq_true hx)] at h
      cases h
    · rw [TL.par_miss (by rw [pre_one]; exact decide_eq_false hx)] at h
      intro z
      rcases List.mem_cons.mp z with z | z
      · exact hx z.symm
      · exact par_lacks h z
theorem spl_some {c : Nat} {l p q : List Nat} (h : TL.par [c] [] l = some (p, q)) : TL.spl [c] 0 [] l = p :: TL.spl [c] 0 [] q := by
  obtain ⟨m, e1, e2, e3⟩ := par_has h
  rw [List.nil_append] at e1
  subst e1
  rw [e2]
  exact TL.spl_part1 (S := []) e3
theorem spl_none {c : Nat} {l : List Nat} (h : TL.par [c] [] l = none) : TL.spl [c] 0 [] l = [l] := TL.spl_last1 (par_lacks h)
theorem par_sm {c : Nat} {l p q : List Nat} (hs : Sm l) (h : TL.par [c] [] l = some (p, q)) : Sm p ∧ Sm q ∧ q.length < l.length := by
  obtain ⟨m, e1, e2, e3⟩ := par_has h
  rw [List.nil_append] at e1
  subst e1
  have hl : l.length = p.length + (q.length + 1) := by rw [e2, List.length_append, List.length_cons]
  have := hs.1
  refine ⟨⟨by omega, fun x hx => hs.2 x ?_⟩, ⟨by omega, fun x hx => hs.2 x ?_⟩, by omega⟩
  · rw [e2]; exact List.mem_append_left _ hx
  · rw [e2]; exact List.mem_append_right _ (List.mem_cons_of_mem _ hx)
theorem spl_sm {c : Nat} : ∀ (n : Nat) {l : List Nat}, l.length ≤ n → Sm l → (∀ p ∈ TL.spl [c] 0 [] l, Sm p) ∧ (TL.spl [c] 0 [] l).length ≤ l.length + 1
  | n, l, hn, hs => by
    cases h : TL.par [c] [] l with
    | none =>
      rw [spl_none h]
      refine ⟨fun p hp => ?_, by simp⟩
      rw [List.mem_singleton.mp hp]
      exact hs
    | some z =>
      obtain ⟨p, q⟩ := z
      obtain ⟨s1, s2, hl⟩ := par_sm hs h
      rw [spl_some h]
      cases n with
      | zero => omega
      | succ n =>
        obtain ⟨h1, h2⟩ := spl_sm (c := c) n (by omega) s2
        refine ⟨fun x hx => ?_, ?_⟩
        · rcases List.mem_cons.mp hx with rfl | hx
          · exact s1
          · exact h1 x hx
        · rw [List.length_cons]
          omega
theorem numL_head : ∀ (n : Nat), 0 < n → (TL.numL n).head? ≠ some 48
  | n, h => by
    by_cases h10 : n < 10
    · rw [TL.numL_lt h10]
      intro z
      have z : 48 + n = 48 := Option.some.inj z
      omega
    · rw [TL.numL_step (by omega)]
      have ih := numL_head (n / 10) (by omega)
      have hn := TL.numL_ne (n / 10)
      cases hh : TL.numL (n / 10) with
      | nil => exact absurd hh hn
      | cons a r =>
        rw [hh] at ih
        exact ih
termination_by n => n
theorem figs_intL (i : Int) : figs (intL i) = TL.numL i.natAbs := by
  unfold intL
  split
  · rfl
  · unfold figs
    split
    · rename_i r hr
      have := TL.numL_digits i.natAbs 45 (by rw [hr]; exact List.mem_cons_self ..)
      omega
    · rfl
theorem whole_intL (i : Int) : wholeIn (intL i) = some i := by
  unfold wholeIn
  have h1 : wholeOk (intL i) = true := by
    unfold wholeOk
    rw [figs_intL, Bool.and_eq_true]
    refine ⟨?_, ?_⟩
    · cases hh : TL.numL i.natAbs with
      | nil => exact absurd hh (TL.numL_ne _)
      | cons a r => rfl
    · rw [Bool.and_eq_true]
      refine ⟨List.all_eq_true.mpr fun c hc => ?_, ?_⟩
      · have := TL.numL_digits i.natAbs c hc
        unfold fig
        rw [decide_eq_true this.1, decide_eq_true this.2]
        rfl
      · by_cases h0 : i = 0
        · subst h0
          rfl
        · rw [decide_eq_false (numL_head _ (by omega))]
          rfl
  rw [if_pos h1]
  refine congrArg some ?_
  unfold wholeV
  split
  · rename_i r hr
    have e : figs (intL i) = r := by rw [hr]; rfl
    rw [figs_intL] at e
    rw [← e, TL.numL_val]
    unfold intL at hr
    split at hr
    · omega
    · have := TL.numL_digits i.natAbs 45 (by rw [hr]; exact List.mem_cons_self ..)
      omega
  · rename_i h0
    unfold intL at h0 ⊢
    split
    · rename_i hn
      rw [if_pos hn] at h0
      exact absurd rfl (h0 _)
    · rw [TL.numL_val]
      omega
theorem intL_len {i : Int} {k : Nat} (hk : 0 < k) (h : i.natAbs < 10 ^ k) : (intL i).length ≤ k + 1 := by
  have := TL.numL_len hk h
  unfold intL
  split
  · rw [List.length_cons]; omega
  · omega
theorem intL_sign {i : Int} {c : Nat} (h : c ∈ intL i) : c = 45 ∨ (48 ≤ c ∧ c ≤ 57) := by
  unfold intL at h
  split at h
  · rcases List.mem_cons.mp h with h | h
    · exact .inl h
    · exact .inr (TL.numL_digits _ _ h)
  · exact .inr (TL.numL_digits _ _ h)
def fracText (p : Int × Int) : List Nat := if p.2 = 1 then intL p.1 else intL p.1 ++ 47 :: intL p.2
theorem fracText_sign {p : Int × Int} {c : Nat} (h : c ∈ fracText p) : c = 45 ∨ (47 ≤ c ∧ c ≤ 57) := by
  unfold fracText at h
  split at h
  · have := intL_sign h; omega
  · rcases List.mem_append.mp h with h | h
    · have := intL_sign h; omega
    · rcases List.mem_cons.mp h with h | h
      · omega
      · have := intL_sign h; omega
def placeText (p q : Int × Int) : List Nat := TL.joinL [44] [fracText p, fracText q]
theorem spl_ne {c : Nat} (l : List Nat) : TL.spl [c] 0 [] l ≠ [] := by
  cases h : TL.par [c] [] l with
  | none => rw [spl_none h]; simp
  | some v => obtain ⟨a, b⟩ := v; rw [spl_some h]; simp
theorem intL_sm {i : Int} (h : i.natAbs < 10 ^ 100) : (intL i).length ≤ 101 ∧ i.natAbs.log2 < 1920 := by
  refine ⟨intL_len (by decide) h, ?_⟩
  have b : (10 : Nat) ^ 100 ≤ 2 ^ 1000 := by decide +kernel
  by_cases h0 : i.natAbs = 0
  · rw [h0]; decide
  · exact Nat.lt_of_lt_of_le (Nat.log2_lt h0 |>.mpr (Nat.lt_of_lt_of_le h b)) (by decide)
def Pq (p : Int × Int) : Prop := p.1.natAbs < 10 ^ 100 ∧ p.2.natAbs < 10 ^ 100
theorem fracText_len {p : Int × Int} (h : Pq p) : (fracText p).length ≤ 203 := by
  have h1 := (intL_sm h.1).1
  have h2 := (intL_sm h.2).1
  unfold fracText
  split
  · omega
  · rw [List.length_append, List.length_cons]; omega
theorem add_S {a b : List Nat} {S : Sto} {Q : DK} (h : (a ++ b).length ≤ 100000) (k : Q (.str (SX.S (a ++ b))) S) : fAdd (.str (SX.S a)) (.str (SX.S b)) S Q := by
  refine ⟨?_, ?_⟩
  · rw [SX.S_len, SX.S_len, ← List.length_append]
    exact Nat.le_trans h (by decide)
  · rw [SX.S_cat]
    exact k
theorem strI_k {i : Int} {S : Sto} {Q : DK} (h : i.natAbs < 10 ^ 100) (k : Q (.str (SX.S (intL i))) S) : bStrI [.int i] S Q := ⟨(intL_sm h).2, by rw [int_str]; exact k⟩
theorem mulS_1 {a : List Nat} {S : Sto} {Q : DK} (k : Q (.str (SX.S a)) S) : fMulS (.str (SX.S a)) (.int 1) S Q := ⟨.inr rfl, k⟩
theorem mulS_0 {a : List Nat} {S : Sto} {Q : DK} (k : Q (.str (SX.S [])) S) : fMulS (.str (SX.S a)) (.int 0) S Q := ⟨.inl rfl, k⟩
theorem fmt_k {i : Int} {S : Sto} {Q : DK} (h : i.natAbs < 10 ^ 100) (k : Q (.str (SX.S (intL i))) S) : fmtK (.int i) S Q := gfmt_i (intL_sm h).2 (by rw [int_str]; exact k)
theorem gcs [FnA] {i : Nat} {m : TFd} {np : Nat} {gD : List D → List D → List D} {ta : TAd} {env : Ev} {S : Sto} {Q : DK} {E : EK} (h : env[i]? = some (some (.obj FnA.rr))) (k : ta env S (fun ds S1 => ds.length = np ∧ ([] : List D).length = 0 ∧ m (gD ds []) S1 Q E) E) : dCallS i m np gD ta env S Q E := ⟨h, k⟩
end Bl

namespace K69
open PySem PySem.Spec PyProof.Rows L2 Bl Lb
variable [FnA]
def kd_COUNTS : WL := [("spot", 1), ("cord", 2), ("bow", 3)]
def k_MOST : D := .int 1000
def k_FIGURES : D := .str "0123456789"
def t_show_fraction : TSd := sSeq (sAsg (vr 0) (.tp (.nm 1 :: .nm 2 :: []))) (sRet (eIf (tbl (dTwo (vr 2) (cn (.int 1)) fEq)) (dB bStrI (aCons (vr 1) (aNil))) (dJoined [dFmt (vr 1), cn (.str "/"), dFmt (vr 2)])))
def m_show_fraction : TFd := fnD 1 3 t_show_fraction
theorem e_show_fraction {a0 : D} {S : Sto} {Q : DK} {E : EK} (k : t_show_fraction [some a0, none, none] S ⟨fun _ S1 => Q .non S1, Q, fun _ _ => False, fun _ _ => False, fun x _ S1 => E x S1⟩) : m_show_fraction [a0] S Q E := ⟨rfl, k⟩
def t_show_place : TSd := sRet (dMt fJoin (cn (.str ",")) (dLc (iVal (vr 0)) (.nm 2) (tYesD) (dCall m_show_fraction 1 0 (fun ds _ => ds) (aCons (eIf (ttr (dIsi "tuple" (vr 2))) (vr 2) (dTup (aCons (vr 2) (aCons (cn (.int 1)) (aNil))))) (aNil)) aNil) [1, 2]))
def m_show_place : TFd := fnD 1 3 t_show_place
theorem e_show_place {a0 : D} {S : Sto} {Q : DK} {E : EK} (k : t_show_place [some a0, none, none] S ⟨fun _ S1 => Q .non S1, Q, fun _ _ => False, fun _ _ => False, fun x _ S1 => E x S1⟩) : m_show_place [a0] S Q E := ⟨rfl, k⟩
def t_show_thing : TSd := sSeq (sStar (vr 0) 1 0 [.nm 1, .nm 2]) (sRet (dMt fJoin (cn (.str " ")) (dTwo (dLst (aCons (vr 1) (aNil))) (dLc (iVal (vr 2)) (.nm 4) (tYesD) (dCall m_show_place 1 0 (fun ds _ => ds) (aCons (vr 4) (aNil)) aNil) [3, 4]) fCat)))
def m_show_thing : TFd := fnD 1 5 t_show_thing
theorem e_show_thing {a0 : D} {S : Sto} {Q : DK} {E : EK} (k : t_show_thing [some a0, none, none, none, none] S ⟨fun _ S1 => Q .non S1, Q, fun _ _ => False, fun _ _ => False, fun x _ S1 => E x S1⟩) : m_show_thing [a0] S Q E := ⟨rfl, k⟩
def t_l_bag : TSd := sSeq (sAsg (cn (.int 0)) (.nm 2)) (sSeq (sIf (tbl (dTwo (vr 1) (dB bLen (aCons (vr 0) (aNil))) fLt)) (sAsg (dTwo (vr 0) (vr 1) fIx) (.nm 2)) (sNx)) (sSeq (sAsg (cn (.int 0)) (.nm 3)) (sSeq (sIf (tbl (dTwo (dB bAbs (aCons (vr 2) (aNil))) (dTwo (cn (.int 10)) (cn (.int 18)) fPow) fGe)) (sAsg (dB bAbs (aCons (vr 2) (aNil))) (.nm 3)) (sNx)) (sSeq (sAsg (dLst (aCons (cn (.int 2147483629)) (aCons (cn (.int 2147483587)) (aCons (cn (.int 2147483579)) (aCons (cn (.int 2147483563)) (aCons (cn (.int 2147483549)) (aCons (cn (.int 2147483543)) (aCons (cn (.int 2147483497)) (aCons (cn (.int 2147483489)) (aNil)))))))))) (.nm 4)) (sRet (dLstR (aCons (vr 3) (aCons (dTwo (dTwo (dTwo (dTwo (dTwo (vr 2) (cn (.int 2147483647)) fMod) (dTwo (cn (.int 104729)) (vr 1) fMul) fAdd) (cn (.int 7)) fAdd) (cn (.int 5)) fPow) (dTwo (vr 4) (dTwo (vr 1) (cn (.int 8)) fMod) fIx) fMod) (aNil)))))))))
def m_l_bag : TFd := fnD 2 5 t_l_bag
theorem e_l_bag {a0 a1 : D} {S : Sto} {Q : DK} {E : EK} (k : t_l_bag [some a0, some a1, none, none, none] S ⟨fun _ S1 => Q .non S1, Q, fun _ _ => False, fun _ _ => False, fun x _ S1 => E x S1⟩) : m_l_bag [a0, a1] S Q E := ⟨rfl, k⟩
def t_l_take : TSd := sSeq (sIf (tbl (dTwo (dTwo (vr 0) (cn (.int 0)) fIx) (cn (.int 0)) fGt)) (sSeq (sAsg (dTwo (dTwo (vr 0) (cn (.int 0)) fIx) (vr 1) fMod) (.nm 2)) (sSeq (sSub (dTwo (dTwo (vr 0) (cn (.int 0)) fIx) (vr 1) fDiv) (vr 0) (cn (.int 0))) (sRet (vr 2)))) (sNx)) (sSeq (sSub (dTwo (dTwo (dTwo (dTwo (vr 0) (cn (.int 1)) fIx) (cn (.int 48271)) fMul) (cn (.int 11)) fAdd) (cn (.int 2147483647)) fMod) (vr 0) (cn (.int 1))) (sRet (dTwo (dTwo (dTwo (dTwo (dTwo (vr 0) (cn (.int 1)) fIx) (cn (.int 8)) fDiv) (cn (.int 3)) fPow) (cn (.int 2147483629)) fMod) (vr 1) fMod)))
def m_l_take : TFd := fnD 2 3 t_l_take
def t_l_turned : TSd := sSeq (sAsg (vr 0) (.tp (.nm 2 :: .nm 3 :: []))) (sSeq (sFor (iR1 (aCons (dTwo (vr 1) (cn (.int 4)) fMod) (aNil))) (.nm 4) (sPar [2, 3] (aCons (dTwo (cn (.int 0)) (vr 3) fSub) (aCons (vr 2) (aNil))))) (sRet (dTup (aCons (vr 2) (aCons (vr 3) (aNil))))))
def m_l_turned : TFd := fnD 2 5 t_l_turned
theorem e_l_turned {a0 a1 : D} {S : Sto} {Q : DK} {E : EK} (k : t_l_turned [some a0, some a1, none, none, none] S ⟨fun _ S1 => Q .non S1, Q, fun _ _ => False, fun _ _ => False, fun x _ S1 => E x S1⟩) : m_l_turned [a0, a1] S Q E := ⟨rfl, k⟩
def t_l_thing : TSd := sSeq (sPar [3, 4] (aCons (dTwo (cn (.int 1)) (dCall m_l_take 2 0 (fun ds _ => ds) (aCons (vr 0) (aCons (cn (.int 3)) (aNil))) aNil) fAdd) (aCons (dCall m_l_take 2 0 (fun ds _ => ds) (aCons (vr 0) (aCons (cn (.int 4)) (aNil))) aNil) (aNil)))) (sSeq (sAsg (dTup (aCons (dTwo (dCall m_l_take 2 0 (fun ds _ => ds) (aCons (vr 0) (aCons (dTwo (dTwo (cn (.int 2)) (vr 1) fMul) (cn (.int 1)) fAdd) (aNil))) aNil) (vr 1) fSub) (aCons (dTwo (dCall m_l_take 2 0 (fun ds _ => ds) (aCons (vr 0) (aCons (dTwo (dTwo (cn (.int 2)) (vr 1) fMul) (cn (.int 1)) fAdd) (aNil))) aNil) (vr 1) fSub) (aNil)))) (.nm 5)) (sSeq (sAsg (dLst (aCons (dTup (aCons (cn (.int 1)) (aCons (cn (.int 0)) (aNil)))) (aCons (dTup (aCons (cn (.int 2)) (aCons (cn (.int 0)) (aNil)))) (aCons (dTup (aCons (cn (.int 3)) (aCons (cn (.int 4)) (aNil)))) (aCons (dTup (aCons (cn (.int 4)) (aCons (cn (.int 3)) (aNil)))) (aCons (dTup (aCons (cn (.int 5)) (aCons (cn (.int 12)) (aNil)))) (aCons (dTup (aCons (cn (.int 12)) (aCons (cn (.int 5)) (aNil)))) (aCons (dTup (aCons (cn (.int 8)) (aCons (cn (.int 15)) (aNil)))) (aCons (dTup (aCons (cn (.int 9)) (aCons (cn (.int 0)) (aNil)))) (aNil)))))))))) (.nm 6)) (sSeq (sAsg (dLst (aCons (dTup (aCons (dTup (aCons (cn (.int 1)) (aCons (cn (.int 0)) (aNil)))) (aCons (dTup (aCons (dNeg (cn (.int 1))) (aCons (cn (.int 0)) (aNil)))) (aNil)))) (aCons (dTup (aCons (dTup (aCons (cn (.int 3)) (aCons (cn (.int 4)) (aNil)))) (aCons (dTup (aCons (dNeg (cn (.int 3))) (aCons (cn (.int 4)) (aNil)))) (aNil)))) (aCons (dTup (aCons (dTup (aCons (cn (.int 4)) (aCons (cn (.int 3)) (aNil)))) (aCons (dTup (aCons (dNeg (cn (.int 4))) (aCons (cn (.int 3)) (aNil)))) (aNil)))) (aCons (dTup (aCons (dTup (aCons (cn (.int 5)) (aCons (cn (.int 12)) (aNil)))) (aCons (dTup (aCons (dNeg (cn (.int 5))) (aCons (cn (.int 12)) (aNil)))) (aNil)))) (aCons (dTup (aCons (dTup (aCons (cn (.int 12)) (aCons (cn (.int 5)) (aNil)))) (aCons (dTup (aCons (dNeg (cn (.int 12))) (aCons (cn (.int 5)) (aNil)))) (aNil)))) (aNil))))))) (.nm 7)) (sSeq (sAsg (dTwo (vr 7) (dLst (aCons (dTup (aCons (dTup (aCons (cn (.int 25)) (aCons (cn (.int 0)) (aNil)))) (aCons (dTup (aCons (cn (.int 7)) (aCons (cn (.int 24)) (aNil)))) (aNil)))) (aCons (dTup (aCons (dTup (aCons (cn (.int 25)) (aCons (cn (.int 0)) (aNil)))) (aCons (dTup (aCons (dNeg (cn (.int 7))) (aCons (cn (.int 24)) (aNil)))) (aNil)))) (aCons (dTup (aCons (dTup (aCons (cn (.int 3)) (aCons (cn (.int 4)) (aNil)))) (aCons (dTup (aCons (dNeg (cn (.int 3))) (aCons (dNeg (cn (.int 4))) (aNil)))) (aNil)))) (aCons (dTup (aCons (dTup (aCons (cn (.int 24)) (aCons (cn (.int 7)) (aNil)))) (aCons (dTup (aCons (dNeg (cn (.int 24))) (aCons (cn (.int 7)) (aNil)))) (aNil)))) (aNil)))))) fCat) (.nm 7)) (sSeq (sIf (tbl (dTwo (vr 2) (cn (.int 2)) fLt)) (sRet (dTup (aCons (cn (.str "spot")) (aCons (vr 5) (aNil))))) (sNx)) (sSeq (sAsg (dLst (aCons (dTwo (vr 6) (dCall m_l_take 2 0 (fun ds _ => ds) (aCons (vr 0) (aCons (cn (.int 8)) (aNil))) aNil) fIx) (aNil))) (.nm 8)) (sSeq (sIf (tbl (dTwo (vr 2) (cn (.int 4)) fGt)) (sAsg (dB bLst (aCons (dTwo (vr 7) (dCall m_l_take 2 0 (fun ds _ => ds) (aCons (vr 0) (aCons (cn (.int 9)) (aNil))) aNil) fIx) (aNil))) (.nm 8)) (sNx)) (sSeq (sAsg (dLstR (aNil)) (.nm 9)) (sSeq (sFor (iVal (vr 8)) (.nm 10) (sSeq (sAsg (dCall m_l_turned 2 0 (fun ds _ => ds) (aCons (dTup (aCons (dTwo (dTwo (vr 10) (cn (.int 0)) fIx) (vr 3) fMul) (aCons (dTwo (dTwo (vr 10) (cn (.int 1)) fIx) (vr 3) fMul) (aNil)))) (aCons (vr 4) (aNil))) aNil) (.tp (.nm 11 :: .nm 12 :: []))) (sDrop (dLm gApp (vr 9) (aCons (dTup (aCons (dTwo (dTwo (vr 5) (cn (.int 0)) fIx) (vr 11) fAdd) (aCons (dTwo (dTwo (vr 5) (cn (.int 1)) fIx) (vr 12) fAdd) (aNil)))) (aNil)))))) (sSeq (sIf (tbl (dTwo (vr 2) (cn (.int 5)) fLt)) (sRet (dTup (aCons (cn (.str "cord")) (aCons (vr 5) (aCons (dTwo (vr 9) (cn (.int 0)) fIx) (aNil)))))) (sNx)) (sRet (dTup (aCons (cn (.str "bow")) (aCons (vr 5) (aCons (dTwo (vr 9) (cn (.int 0)) fIx) (aCons (dTwo (vr 9) (cn (.int 1)) fIx) (aNil)))))))))))))))))
def m_l_thing : TFd := fnD 3 13 t_l_thing
theorem e_l_thing {a0 a1 a2 : D} {S : Sto} {Q : DK} {E : EK} (k : t_l_thing [some a0, some a1, some a2, none, none, none, none, none, none, none, none, none, none] S ⟨fun _ S1 => Q .non S1, Q, fun _ _ => False, fun _ _ => False, fun x _ S1 => E x S1⟩) : m_l_thing [a0, a1, a2] S Q E := ⟨rfl, k⟩
def t_l_fraction_text : TSd := sRet (dTwo (dB bStrI (aCons (dTwo (vr 0) (cn (.int 0)) fIx) (aNil))) (dTwo (dTwo (cn (.str "/")) (dB bStrI (aCons (dTwo (vr 0) (cn (.int 1)) fIx) (aNil))) fAdd) (dB bInt (aCons (dTwo (dTwo (vr 0) (cn (.int 1)) fIx) (cn (.int 1)) fNe) (aNil))) fMulS) fAdd)
def m_l_fraction_text : TFd := fnD 1 1 t_l_fraction_text
def t_l_place_text : TSd := sRet (dMt fJoin (cn (.str ",")) (dLc (iVal (vr 0)) (.nm 2) (tYesD) (eIf (ttr (dIsi "int" (vr 2))) (dB bStrI (aCons (vr 2) (aNil))) (dCall m_l_fraction_text 1 0 (fun ds _ => ds) (aCons (vr 2) (aNil)) aNil)) [1, 2]))
def m_l_place_text : TFd := fnD 1 3 t_l_place_text
theorem e_l_place_text {a0 : D} {S : Sto} {Q : DK} {E : EK} (k : t_l_place_text [some a0, none, none] S ⟨fun _ S1 => Q .non S1, Q, fun _ _ => False, fun _ _ => False, fun x _ S1 => E x S1⟩) : m_l_place_text [a0] S Q E := ⟨rfl, k⟩
def t_l_thing_text : TSd := sRet (dMt fJoin (cn (.str " ")) (dTwo (dLst (aCons (dTwo (vr 0) (cn (.int 0)) fIx) (aNil))) (dLc (iVal (dSl (vr 0) (oSome (cn (.int 1))) (oNone))) (.nm 2) (tYesD) (dCall m_l_place_text 1 0 (fun ds _ => ds) (aCons (vr 2) (aNil)) aNil) [1, 2]) fCat))
def m_l_thing_text : TFd := fnD 1 3 t_l_thing_text
theorem e_l_thing_text {a0 : D} {S : Sto} {Q : DK} {E : EK} (k : t_l_thing_text [some a0, none, none] S ⟨fun _ S1 => Q .non S1, Q, fun _ _ => False, fun _ _ => False, fun x _ S1 => E x S1⟩) : m_l_thing_text [a0] S Q E := ⟨rfl, k⟩
def t_is_point : TSd := sRet (eIf (tbl (dCall m_are_whole 2 0 (fun ds _ => ds) (aCons (vr 0) (aCons (cn (.int 2)) (aNil))) aNil)) (dB bAll (aCons (dLc (iVal (vr 0)) (.nm 2) (tYesD) (dChain (dNeg (cn k_MOST)) (vr 2) (cn k_MOST) fLe fLe) [1, 2]) (aNil))) (cn (.bl false)))
def m_is_point : TFd := fnD 1 3 t_is_point
theorem e_is_point {a0 : D} {S : Sto} {Q : DK} {E : EK} (k : t_is_point [some a0, none, none] S ⟨fun _ S1 => Q .non S1, Q, fun _ _ => False, fun _ _ => False, fun x _ S1 => E x S1⟩) : m_is_point [a0] S Q E := ⟨rfl, k⟩
def t_is_bow : TSd := sSeq (sIf (tOrD (tbl (dTwo (vr 1) (vr 2) fEq)) (tbl (dTwo (dCall m_far_square 2 0 (fun ds _ => ds) (aCons (vr 0) (aCons (vr 1) (aNil))) aNil) (dCall m_far_square 2 0 (fun ds _ => ds) (aCons (vr 0) (aCons (vr 2) (aNil))) aNil) fNe))) (sRet (cn (.bl false))) (sNx)) (sSeq (sIf (tOrD (tNotD (ttr (dCall m_is_square 1 0 (fun ds _ => ds) (aCons (dCall m_far_square 2 0 (fun ds _ => ds) (aCons (vr 0) (aCons (vr 1) (aNil))) aNil) (aNil)) aNil))) (tNotD (ttr (dCall m_is_square 1 0 (fun ds _ => ds) (aCons (dCall m_far_square 2 0 (fun ds _ => ds) (aCons (vr 1) (aCons (vr 2) (aNil))) aNil) (aNil)) aNil)))) (sRet (cn (.bl false))) (sNx)) (sRet (dTwo (dCall m_cross_of 2 0 (fun ds _ => ds) (aCons (dCall m_step_from 2 0 (fun ds _ => ds) (aCons (vr 1) (aCons (vr 0) (aNil))) aNil) (aCons (dCall m_step_from 2 0 (fun ds _ => ds) (aCons (vr 2) (aCons (vr 0) (aNil))) aNil) (aNil))) aNil) (cn (.int 0)) fGe)))
def m_is_bow : TFd := fnD 3 3 t_is_bow
theorem e_is_bow {a0 a1 a2 : D} {S : Sto} {Q : DK} {E : EK} (k : t_is_bow [some a0, some a1, some a2] S ⟨fun _ S1 => Q .non S1, Q, fun _ _ => False, fun _ _ => False, fun x _ S1 => E x S1⟩) : m_is_bow [a0, a1, a2] S Q E := ⟨rfl, k⟩
def t_is_thing : TSd := sSeq (sIf (tOrD (tNotD (ttr (dIsi "tuple" (vr 0)))) (tOrD (tbl (dTwo (dB bLen (aCons (vr 0) (aNil))) (cn (.int 2)) fLt)) (tOrD (tNotD (ttr (dIsi "str" (dTwo (vr 0) (cn (.int 0)) fIx)))) (tbl (dInW kd_COUNTS true (dTwo (vr 0) (cn (.int 0)) fIx)))))) (sRet (cn (.bl false))) (sNx)) (sSeq (sStar (vr 0) 1 0 [.nm 1, .nm 2]) (sSeq (sIf (tOrD (tbl (dTwo (dB bLen (aCons (vr 2) (aNil))) (dIxW kd_COUNTS (vr 1)) fNe)) (tNotD (ttr (dB bAll (aCons (dLc (iVal (vr 2)) (.nm 4) (tYesD) (dCall m_is_point 1 0 (fun ds _ => ds) (aCons (vr 4) (aNil)) aNil) [3, 4]) (aNil)))))) (sRet (cn (.bl false))) (sNx)) (sSeq (sIf (tbl (dTwo (vr 1) (cn (.str "spot")) fEq)) (sRet (cn (.bl true))) (sNx)) (sSeq (sIf (tbl (dTwo (vr 1) (cn (.str "cord")) fEq)) (sRet (eIf (tbl (dTwo (dTwo (vr 2) (cn (.int 0)) fIx) (dTwo (vr 2) (cn (.int 1)) fIx) fNe)) (dCall m_is_square 1 0 (fun ds _ => ds) (aCons (dCall m_far_square 2 0 (fun ds _ => ds) (aCons (dTwo (vr 2) (cn (.int 0)) fIx) (aCons (dTwo (vr 2) (cn (.int 1)) fIx) (aNil))) aNil) (aNil)) aNil) (cn (.bl false)))) (sNx)) (sRet (dCall m_is_bow 3 0 (fun ds _ => ds) (aCons (dTwo (vr 2) (cn (.int 0)) fIx) (aCons (dTwo (vr 2) (cn (.int 1)) fIx) (aCons (dTwo (vr 2) (cn (.int 2)) fIx) (aNil)))) aNil))))))
def m_is_thing : TFd := fnD 1 5 t_is_thing
theorem e_is_thing {a0 : D} {S : Sto} {Q : DK} {E : EK} (k : t_is_thing [some a0, none, none, none, none] S ⟨fun _ S1 => Q .non S1, Q, fun _ _ => False, fun _ _ => False, fun x _ S1 => E x S1⟩) : m_is_thing [a0] S Q E := ⟨rfl, k⟩
def t_whole_in : TSd := sSeq (sAsg (eIf (ttr (dMt fSw (vr 0) (cn (.str "-")))) (dSl (vr 0) (oSome (cn (.int 1))) (oNone)) (vr 0)) (.nm 1)) (sSeq (sIf (tOrD (tbl (dTwo (vr 1) (cn (.str "")) fEq)) (tNotD (ttr (dB bAll (aCons (dLc (iStrD (vr 1)) (.nm 3) (tYesD) (dTwo (vr 3) (cn k_FIGURES) (fIn false)) [2, 3]) (aNil)))))) (sRet (cn .non)) (sNx)) (sSeq (sIf (tAndD (tbl (dTwo (dTwo (vr 1) (cn (.int 0)) fIx) (cn (.str "0")) fEq)) (tbl (dTwo (vr 0) (cn (.str "0")) fNe))) (sRet (cn .non)) (sNx)) (sRet (dB bIntS (aCons (vr 0) (aNil))))))
def m_whole_in : TFd := fnD 1 4 t_whole_in
theorem e_whole_in {a0 : D} {S : Sto} {Q : DK} {E : EK} (k : t_whole_in [some a0, none, none, none] S ⟨fun _ S1 => Q .non S1, Q, fun _ _ => False, fun _ _ => False, fun x _ S1 => E x S1⟩) : m_whole_in [a0] S Q E := ⟨rfl, k⟩
def t_point_in : TSd := sSeq (sAsg (dB bTup (aCons (dLc (iVal (dMt fSplit (vr 0) (cn (.str ",")))) (.nm 3) (tYesD) (dCall m_whole_in 1 0 (fun ds _ => ds) (aCons (vr 3) (aNil)) aNil) [2, 3]) (aNil))) (.nm 1)) (sRet (eIf (tAndD (tbl (dTwo (dB bLen (aCons (vr 1) (aNil))) (cn (.int 2)) fEq)) (tbl (dTwo (cn .non) (vr 1) (fIn true)))) (vr 1) (cn .non)))
def m_point_in : TFd := fnD 1 4 t_point_in
theorem e_point_in {a0 : D} {S : Sto} {Q : DK} {E : EK} (k : t_point_in [some a0, none, none, none] S ⟨fun _ S1 => Q .non S1, Q, fun _ _ => False, fun _ _ => False, fun x _ S1 => E x S1⟩) : m_point_in [a0] S Q E := ⟨rfl, k⟩
def t_thing_in : TSd := sSeq (sStar (vr 0) 1 0 [.nm 1, .nm 2]) (sSeq (sIf (tOrD (tbl (dInW kd_COUNTS true (vr 1))) (tbl (dTwo (dB bLen (aCons (vr 2) (aNil))) (dIxW kd_COUNTS (vr 1)) fNe))) (sRet (cn .non)) (sNx)) (sSeq (sAsg (dLc (iVal (vr 2)) (.nm 5) (tYesD) (dCall m_point_in 1 0 (fun ds _ => ds) (aCons (vr 5) (aNil)) aNil) [4, 5]) (.nm 3)) (sRet (eIf (tbl (dTwo (cn .non) (vr 3) (fIn false))) (cn .non) (dB bTup (aCons (dTwo (dLst (aCons (vr 1) (aNil))) (vr 3) fCat) (aNil)))))))
def m_thing_in : TFd := fnD 1 6 t_thing_in
theorem e_thing_in {a0 : D} {S : Sto} {Q : DK} {E : EK} (k : t_thing_in [some a0, none, none, none, none, none] S ⟨fun _ S1 => Q .non S1, Q, fun _ _ => False, fun _ _ => False, fun x _ S1 => E x S1⟩) : m_thing_in [a0] S Q E := ⟨rfl, k⟩
def t_read_thing : TSd := sSeq (sAsg (eIf (ttr (dIsi "str" (vr 0))) (dCall m_thing_in 1 0 (fun ds _ => ds) (aCons (dMt fSplit (vr 0) (cn (.str " "))) (aNil)) aNil) (cn .non)) (.nm 1)) (sSeq (sIf (tOrD (tbl (dTwo (vr 1) (cn .non) fIs)) (tNotD (ttr (dCall m_is_thing 1 0 (fun ds _ => ds) (aCons (vr 1) (aNil)) aNil)))) (sRaise "NoText") (sNx)) (sRet (vr 1)))
def m_read_thing : TFd := fnD 1 2 t_read_thing
theorem e_read_thing {a0 : D} {S : Sto} {Q : DK} {E : EK} (k : t_read_thing [some a0, none] S ⟨fun _ S1 => Q .non S1, Q, fun _ _ => False, fun _ _ => False, fun x _ S1 => E x S1⟩) : m_read_thing [a0] S Q E := ⟨rfl, k⟩
def t_l_read : TSd := sTryAs (sRet (dCallS 0 m_read_thing 1 (fun ds _ => ds) (aCons (vr 1) (aNil)))) (sbOne "NoText") 2 (fun a _ => sSeq (sAsg (dIsE 2 a (some false)) (.nm 3)) (sRet (eIf (tAndD (ttr (dIsE 2 a (some true))) (tAndD (ttr (dIsE 2 a (some true))) (tNotD (ttr (vr 3))))) (cn (.str "none")) (cn (.str "other")))))
def m_l_read : TFd := fnD 2 4 t_l_read
theorem e_l_read {a0 a1 : D} {S : Sto} {Q : DK} {E : EK} (k : t_l_read [some a0, some a1, none, none] S ⟨fun _ S1 => Q .non S1, Q, fun _ _ => False, fun _ _ => False, fun x _ S1 => E x S1⟩) : m_l_read [a0, a1] S Q E := ⟨rfl, k⟩
def t_l_bent : TSd := sSeq (sAsg (dTwo (cn (.str "0123456789-/,+r w.;")) (cn (.str "abcdefghijklmnopqsuvxyzRW!\"#$&'()*:<=>?\x40[]^_{|}~\\")) fAdd) (.nm 2)) (sSeq (sFor (iR1 (aCons (dTwo (cn (.int 1)) (dCall m_l_take 2 0 (fun ds _ => ds) (aCons (vr 0) (aCons (cn (.int 2)) (aNil))) aNil) fAdd) (aNil))) (.nm 3) (sSeq (sPar [4, 5] (aCons (dCall m_l_take 2 0 (fun ds _ => ds) (aCons (vr 0) (aCons (cn (.int 4)) (aNil))) aNil) (aCons (dCall m_l_take 2 0 (fun ds _ => ds) (aCons (vr 0) (aCons (dTwo (dB bLen (aCons (vr 1) (aNil))) (cn (.int 1)) fAdd) (aNil))) aNil) (aNil)))) (sSeq (sAsg (dTwo (vr 2) (dCall m_l_take 2 0 (fun ds _ => ds) (aCons (vr 0) (aCons (dTwo (dLst (aCons (cn (.int 19)) (aCons (dB bLen (aCons (vr 2) (aNil))) (aNil)))) (dCall m_l_take 2 0 (fun ds _ => ds) (aCons (vr 0) (aCons (cn (.int 2)) (aNil))) aNil) fIx) (aNil))) aNil) fIx) (.nm 6)) (sSeq (sIf (tbl (dTwo (vr 4) (cn (.int 3)) fEq)) (sSeq (sAsg (dCall m_l_take 2 0 (fun ds _ => ds) (aCons (vr 0) (aCons (dTwo (dB bLen (aCons (vr 1) (aNil))) (cn (.int 1)) fAdd) (aNil))) aNil) (.nm 7)) (sAsg (dSl (vr 1) (oSome (vr 7)) (oSome (dTwo (vr 7) (cn (.int 1)) fAdd))) (.nm 6))) (sNx)) (sSeq (sAsg (dSl (vr 1) (oSome (dTwo (vr 5) (dB bInt (aCons (dTwo (vr 4) (cn (.int 0)) fNe) (aNil))) fAdd)) (oNone)) (.nm 8)) (sAsg (dTwo (dTwo (dSl (vr 1) (oNone) (oSome (vr 5))) (dTwo (vr 6) (dB bInt (aCons (dTwo (vr 4) (cn (.int 1)) fNe) (aNil))) fMulS) fAdd) (vr 8) fAdd) (.nm 1))))))) (sRet (vr 1)))
def m_l_bent : TFd := fnD 2 9 t_l_bent
theorem e_l_bent {a0 a1 : D} {S : Sto} {Q : DK} {E : EK} (k : t_l_bent [some a0, some a1, none, none, none, none, none, none, none] S ⟨fun _ S1 => Q .non S1, Q, fun _ _ => False, fun _ _ => False, fun x _ S1 => E x S1⟩) : m_l_bent [a0, a1] S Q E := ⟨rfl, k⟩
def t_l_whole_in : TSd := sSeq (sAsg (eIf (tbl (dTwo (dSl (vr 0) (oNone) (oSome (cn (.int 1)))) (cn (.str "-")) fEq)) (dSl (vr 0) (oSome (cn (.int 1))) (oNone)) (vr 0)) (.nm 1)) (sSeq (sIf (tOrD (tbl (dTwo (vr 1) (cn (.str "")) fEq)) (tNotD (ttr (dB bAll (aCons (dLc (iStrD (vr 1)) (.nm 3) (tYesD) (dTwo (vr 3) (cn (.str "0123456789")) (fIn false)) [2, 3]) (aNil)))))) (sRet (cn .non)) (sNx)) (sSeq (sIf (tAndD (tbl (dTwo (dTwo (vr 1) (cn (.int 0)) fIx) (cn (.str "0")) fEq)) (tbl (dTwo (vr 0) (cn (.str "0")) fNe))) (sRet (cn .non)) (sNx)) (sRet (dB bIntS (aCons (vr 0) (aNil))))))
def m_l_whole_in : TFd := fnD 1 4 t_l_whole_in
theorem e_l_whole_in {a0 : D} {S : Sto} {Q : DK} {E : EK} (k : t_l_whole_in [some a0, none, none, none] S ⟨fun _ S1 => Q .non S1, Q, fun _ _ => False, fun _ _ => False, fun x _ S1 => E x S1⟩) : m_l_whole_in [a0] S Q E := ⟨rfl, k⟩
def t_l_thing_in : TSd := sSeq (sAsg (dMt fSplit (vr 0) (cn (.str " "))) (.nm 1)) (sSeq (sAsg (dSlR (vr 1) (oNone) (oSome (cn (.int 1)))) (.nm 2)) (sSeq (sFor (iVal (dSl (vr 1) (oSome (cn (.int 1))) (oNone))) (.nm 3) (sSeq (sAsg (dB bTup (aCons (dLc (iVal (dMt fSplit (vr 3) (cn (.str ",")))) (.nm 6) (tYesD) (dCall m_l_whole_in 1 0 (fun ds _ => ds) (aCons (vr 6) (aNil)) aNil) [5, 6]) (aNil))) (.nm 4)) (sSeq (sIf (tOrD (tbl (dTwo (dB bLen (aCons (vr 4) (aNil))) (cn (.int 2)) fNe)) (tbl (dTwo (cn .non) (vr 4) (fIn false)))) (sFrz 2 (sRet (cn .non))) (sNx)) (sDrop (dLm gApp (vr 2) (aCons (vr 4) (aNil))))))) (sFrz 2 (sRet (eIf (ttr (dCall m_is_thing 1 0 (fun ds _ => ds) (aCons (dB bTup (aCons (vr 2) (aNil))) (aNil)) aNil)) (dB bTup (aCons (vr 2) (aNil))) (cn .non))))))
def m_l_thing_in : TFd := fnD 1 7 t_l_thing_in
theorem e_l_thing_in {a0 : D} {S : Sto} {Q : DK} {E : EK} (k : t_l_thing_in [some a0, none, none, none, none, none, none] S ⟨fun _ S1 => Q .non S1, Q, fun _ _ => False, fun _ _ => False, fun x _ S1 => E x S1⟩) : m_l_thing_in [a0] S Q E := ⟨rfl, k⟩
def t_l_by_words : TSd := sSeq (sAsg (dMt fSplitR (vr 1) (cn (.str " "))) (.nm 2)) (sSeq (sPar [3, 4] (aCons (dCall m_l_take 2 0 (fun ds _ => ds) (aCons (vr 0) (aCons (dB bLen (aCons (vr 2) (aNil))) (aNil))) aNil) (aCons (dCall m_l_take 2 0 (fun ds _ => ds) (aCons (vr 0) (aCons (dB bLen (aCons (vr 2) (aNil))) (aNil))) aNil) (aNil)))) (sSeq (sAsg (dCall m_l_take 2 0 (fun ds _ => ds) (aCons (vr 0) (aCons (cn (.int 3)) (aNil))) aNil) (.nm 5)) (sSeq (sIf (tbl (dTwo (vr 5) (cn (.int 0)) fEq)) (sDrop (dLm gPop (vr 2) (aCons (vr 3) (aNil)))) (sIf (tbl (dTwo (vr 5) (cn (.int 1)) fEq)) (sDrop (dLm gIns (vr 2) (aCons (vr 3) (aCons (dTwo (vr 2) (vr 4) fIx) (aNil))))) (sSeq (sAsg (dTwo (vr 2) (vr 3) fIx) (.nm 6)) (sSeq (sSub (dTwo (vr 2) (vr 4) fIx) (vr 2) (vr 3)) (sSub (vr 6) (vr 2) (vr 4)))))) (sFrz 2 (sRet (dMt fJoin (cn (.str " ")) (vr 2)))))))
def m_l_by_words : TFd := fnD 2 7 t_l_by_words
theorem e_l_by_words {a0 a1 : D} {S : Sto} {Q : DK} {E : EK} (k : t_l_by_words [some a0, some a1, none, none, none, none, none] S ⟨fun _ S1 => Q .non S1, Q, fun _ _ => False, fun _ _ => False, fun x _ S1 => E x S1⟩) : m_l_by_words [a0, a1] S Q E := ⟨rfl, k⟩
def t_law : TSd := sSeq (sFor (iR1 (aCons (dB bMax (aCons (cn (.int 1)) (aCons (dB bMin (aCons (cn (.int 4)) (aCons (dB bLen (aCons (vr 0) (aNil))) (aNil)))) (aNil)))) (aNil))) (.nm 1) (sSeq (sAsg (dCall m_l_bag 2 0 (fun ds _ => ds) (aCons (vr 0) (aCons (vr 1) (aNil))) aNil) (.nm 2)) (sSeq (sAsg (dCall m_l_thing 3 0 (fun ds _ => ds) (aCons (vr 2) (aCons (dTwo (dLst (aCons (cn (.int 9)) (aCons (cn (.int 900)) (aNil)))) (dCall m_l_take 2 0 (fun ds _ => ds) (aCons (vr 2) (aCons (cn (.int 2)) (aNil))) aNil) fIx) (aCons (dCall m_l_take 2 0 (fun ds _ => ds) (aCons (vr 2) (aCons (cn (.int 7)) (aNil))) aNil) (aNil)))) aNil) (.nm 3)) (sSeq (sAsg (dCall m_l_thing_text 1 0 (fun ds _ => ds) (aCons (vr 3) (aNil)) aNil) (.nm 4)) (sSeq (sIf (tOrD (tbl (dTwo (dCall m_show_thing 1 0 (fun ds _ => ds) (aCons (vr 3) (aNil)) aNil) (vr 4) fNe)) (tbl (dTwo (dCall m_l_read 2 0 (fun ds _ => ds) (aCons (dGl) (aCons (vr 4) (aNil))) aNil) (vr 3) fNe))) (sRet (cn (.bl false))) (sNx)) (sSeq (sAsg (dTwo (dLc (iR1 (aCons (cn (.int 5)) (aNil))) (.nm 10) (tYesD) (dCall m_l_bent 2 0 (fun ds _ => ds) (aCons (vr 2) (aCons (vr 4) (aNil))) aNil) [9, 10]) (dLc (iR1 (aCons (cn (.int 3)) (aNil))) (.nm 10) (tYesD) (dCall m_l_by_words 2 0 (fun ds _ => ds) (aCons (vr 2) (aCons (vr 4) (aNil))) aNil) [9, 10]) fCat) (.nm 5)) (sSeq (sAsg (dTwo (vr 5) (dLst (aCons (dCall m_l_bent 2 0 (fun ds _ => ds) (aCons (vr 2) (aCons (cn (.str "bow 0,0 3,4 -3,4")) (aNil))) aNil) (aCons (cn (.str "")) (aCons (cn (.str "spot")) (aCons (cn (.str "spot ")) (aCons (cn (.str "spot 1")) (aCons (cn (.str "spot 1,2,3")) (aCons (cn (.str "spot 1/2,3")) (aNil))))))))) fCatG) (.nm 5)) (sSeq (sAsg (dTwo (vr 5) (dLst (aCons (cn (.str "cord 0,0 1,1")) (aCons (cn (.str "cord 0,0 0,0")) (aCons (cn (.str "cord 0,0 3,4 3,4")) (aCons (cn (.str "bow 0,0 3,4 4,3")) (aCons (cn (.str "bow 0,0 -3,4 3,4")) (aNil))))))) fCatG) (.nm 5)) (sSeq (sAsg (dTwo (vr 5) (dLst (aCons (cn (.str "Spot 1,2")) (aCons (cn (.str " spot 1,2")) (aCons (cn (.str "spot  1,2")) (aCons (cn (.str "spot 1001,0")) (aCons (cn (.str "spot -0,1")) (aCons (cn (.str "spot 01,1")) (aCons (cn (.str "knot 1,2")) (aNil))))))))) fCatG) (.nm 5)) (sSeq (sDrop (dLm gApp (vr 5) (aCons (dTwo (vr 4) (cn (.str " ")) fAdd) (aNil)))) (sSeq (sFrz 5 (sFor (iVal (vr 5)) (.nm 6) (sSeq (sAsg (dCall m_l_thing_in 1 0 (fun ds _ => ds) (aCons (vr 6) (aNil)) aNil) (.nm 7)) (sIf (tbl (dTwo (dCall m_l_read 2 0 (fun ds _ => ds) (aCons (dGl) (aCons (vr 6) (aNil))) aNil) (eIf (tbl (dTwo (vr 7) (cn .non) fIs)) (cn (.str "none")) (vr 7)) fNe)) (sRet (cn (.bl false))) (sNx))))) (sFor (iVal (dTup (aCons (cn .non) (aCons (cn (.int 7)) (aCons (cn (.bl true)) (aCons (vr 3) (aCons (dLst (aCons (vr 4) (aNil))) (aCons (dTup (aCons (vr 4) (aNil))) (aNil))))))))) (.nm 8) (sIf (tbl (dTwo (dCall m_l_read 2 0 (fun ds _ => ds) (aCons (dGl) (aCons (vr 8) (aNil))) aNil) (cn (.str "none")) fNe)) (sRet (cn (.bl false))) (sNx)))))))))))))) (sRet (cn (.bl true)))
def m_law : TFd := fnD 1 11 t_law
theorem e_law {a0 : D} {S : Sto} {Q : DK} {E : EK} (k : t_law [some a0, none, none, none, none, none, none, none, none, none, none] S ⟨fun _ S1 => Q .non S1, Q, fun _ _ => False, fun _ _ => False, fun x _ S1 => E x S1⟩) : m_law [a0] S Q E := ⟨rfl, k⟩
end K69

namespace K69
open PySem PySem.Spec PyProof.Rows L2 Bl Lb
variable [FnA]
local macro_rules | `(tactic| walk_at "mo") => `(tactic| (repeat' first
  | exact moVr _ | exact moCn _ | refine moB bStrI_mo ?_ | (with_reducible refine moCall ?_ ?_ ?_) | exact moYesD | exact moNilA | exact moONone | exact moAdd | exact moSub | exact moMul | exact moDiv | exact moMod | exact moPow | exact moShl | exact moLt | exact moLe | exact moGt | exact moGe | exact moEq | exact moNe | exact moIs | exact moIsNot | exact moIn _ | exact moIx | exact moCat | exact moRep01 | exact moCatR | exact moNeR | refine moSortSet ?_
  | (with_reducible refine moTup ?_) | (with_reducible refine moLst ?_) | refine moTwo ?_ ?_ ?_ | refine moConsA ?_ ?_ | refine moTup ?_ | refine moLst ?_ | refine moTbl ?_ | refine moTtr ?_ | refine moAndD ?_ ?_ | refine moOrD ?_ ?_ | refine moNotD ?_ | refine moVOf ?_ | refine moEIf ?_ ?_ ?_ | refine moNeg ?_ | refine moChain ?_ ?_ ?_ ?_ ?_ | refine moSl ?_ ?_ ?_ | refine moOSome ?_ | refine moIsi ?_
  | refine moCall ?_ ?_ ?_ | refine moLc ?_ ?_ ?_ | refine moRvs ?_ ?_ | refine moLcG ?_ ?_ ?_ | refine moIVal ?_ | refine moR1 ?_ | refine moR2 ?_ | refine moEnumD ?_ | refine moRevD ?_ | refine moZipD ?_ ?_ | refine moZipSD ?_ ?_ | refine moZipRD ?_ ?_ | refine moGetL ?_ ?_ ?_ | refine moB (cd_len (X := X)).mo ?_ | refine moB (cd_abs (X := X)).mo ?_ | refine moB (cd_int (X := X)).mo ?_ | refine moB (cd_tup (X := X)).mo ?_ | refine moB (cd_lst (X := X)).mo ?_))
section
variable {P : Program} {w : World} {K : PySem.W.Frag} {mg : Str → Option Value} {base : Heap}
theorem Tk_MOST (T : TpF "read_thing" fa fn bx ts w K mg) : GC K mg "MOST" k_MOST := gc_int (T.int 50)
theorem Tk_FIGURES (T : TpF "read_thing" fa fn bx ts w K mg) : GC K mg "FIGURES" k_FIGURES := gc_str (T.str 58)
theorem body_show_fraction (T : TpF "read_thing" fa fn bx ts w K mg) {X : Cx} {W : WX} (d : JD P w K mg base nm_show_fraction (defScope (top 31)) vw_show_fraction 0 X W) : JB X W (defBody (top 31)) t_show_fraction :=
  jb_cons (js_asg (jv d.toJC 0 (mm 0) rfl) (jg_tup d.toJC.calm (jgs_cons (jg_name d.toJC 1 rfl (.inl (d.toJC.sC.loc 1 (mm 1) _ rfl))) (jgs_cons (jg_name d.toJC 2 rfl (.inl (d.toJC.sC.loc 2 (mm 2) _ rfl))) (jgs_nil))))) (jb_one (js_ret (je_ifExp (jt_cmp (opD_eq d.toJC.room) (jv d.toJC 2 (mm 2) rfl) (je_int) rfl) (je_callTy d.toJC cd_strI (mm 0) (T.free 18) (by decide +kernel) (ja_cons (jv d.toJC 1 (mm 1) rfl) (ja_nil))) (je_joined (.cons (je_fmt (jv d.toJC 1 (mm 1) rfl)) (.cons (je_str) (.cons (je_fmt (jv d.toJC 2 (mm 2) rfl)) (.nil))))))))
theorem Tj_show_fraction (T : TpF "read_thing" fa fn bx ts w K mg) : JF P w K mg base "show_fraction" 1 [] (fun ds _ => ds) 1 m_show_fraction := by
  obtain ⟨fd, F⟩ := T.sy.def_ 0 (d := d_show_fraction) rfl
  exact jf_mkN F fs_show_fraction sc_show_fraction (T.glo 17) ⟨rfl, by decide, by decide⟩ (fun _ _ _ _ _ _ us hl => match us, hl with | [_], _ => rfl) (fun X W d => body_show_fraction T d)
theorem body_show_place (T : TpF "read_thing" fa fn bx ts w K mg) {X : Cx} {W : WX} (d : JD P w K mg base nm_show_place (defScope (top 32)) vw_show_place 1 X W) : JB X W (defBody (top 32)) t_show_place :=
  jb_one (js_ret (je_join (je_str) (je_lc d.toJC (own := [(".0", 1), ("one", 2)]) (vw2 := vb0_show_place) (by decide +kernel) (scOf (by decide +kernel)) (by decide) (ji_val (jv d.toJC 0 (mm 0) rfl)) (fun _ c0 => jg_name c0 2 rfl (.inl (c0.sC.loc 2 (mm 1) _ rfl))) (fun _ c0 => jts_nil) (fun _ c0 => je_call c0 (Tj_show_fraction T) (by decide) (mm 0) (ja_cons (je_ifExp (jt_tru (je_isi c0 (mm 1) (T.free 15) (mm 2) (T.free 16) (by decide +kernel) (jv c0 2 (mm 1) rfl))) (jv c0 2 (mm 1) rfl) (je_tup (ja_cons (jv c0 2 (mm 1) rfl) (ja_cons (je_int) (ja_nil))))) (ja_nil))) (by walk_at "mo" <;> first | with_reducible exact (Tj_show_fraction (P := P) (w := w) (base := base) T).mo) (by walk_at "mo" <;> first | with_reducible exact (Tj_show_fraction (P := P) (w := w) (base := base) T).mo))))
theorem Tj_show_place (T : TpF "read_thing" fa fn bx ts w K mg) : JF P w K mg base "show_place" 1 [] (fun ds _ => ds) 2 m_show_place := by
  obtain ⟨fd, F⟩ := T.sy.def_ 1 (d := d_show_place) rfl
  exact jf_mkN F fs_show_place sc_show_place (T.glo 14) ⟨rfl, by decide, by decide⟩ (fun _ _ _ _ _ _ us hl => match us, hl with | [_], _ => rfl) (fun X W d => body_show_place T d)
theorem body_show_thing (T : TpF "read_thing" fa fn bx ts w K mg) {X : Cx} {W : WX} (d : JD P w K mg base nm_show_thing (defScope (top 33)) vw_show_thing 2 X W) : JB X W (defBody (top 33)) t_show_thing :=
  jb_cons (js_star (i := 1) (aft := 0) d.toJC.calm (jv d.toJC 0 (mm 0) rfl) (jgs_cons (jg_name d.toJC 1 rfl (.inl (d.toJC.sC.loc 1 (mm 1) _ rfl))) (jgs_cons (jg_name d.toJC 2 rfl (.inl (d.toJC.sC.loc 2 (mm 2) _ rfl))) (jgs_nil)))) (jb_one (js_ret (je_join (je_str) (je_op opD_cat (je_lst (ja_cons (jv d.toJC 1 (mm 1) rfl) (ja_nil))) (je_lc d.toJC (own := [(".0", 3), ("point", 4)]) (vw2 := vb0_show_thing) (by decide +kernel) (scOf (by decide +kernel)) (by decide) (ji_val (jv d.toJC 2 (mm 2) rfl)) (fun _ c0 => jg_name c0 4 rfl (.inl (c0.sC.loc 4 (mm 1) _ rfl))) (fun _ c0 => jts_nil) (fun _ c0 => je_call c0 (Tj_show_place T) (by decide) (mm 0) (ja_cons (jv c0 4 (mm 1) rfl) (ja_nil))) (by walk_at "mo" <;> first | with_reducible exact (Tj_show_place (P := P) (w := w) (base := base) T).mo) (by walk_at "mo" <;> first | with_reducible exact (Tj_show_place (P := P) (w := w) (base := base) T).mo))))))
theorem Tj_show_thing (T : TpF "read_thing" fa fn bx ts w K mg) : JF P w K mg base "show_thing" 1 [] (fun ds _ => ds) 3 m_show_thing := by
  obtain ⟨fd, F⟩ := T.sy.def_ 2 (d := d_show_thing) rfl
  exact jf_mkN F fs_show_thing sc_show_thing (T.glo 8) ⟨rfl, by decide, by decide⟩ (fun _ _ _ _ _ _ us hl => match us, hl with | [_], _ => rfl) (fun X W d => body_show_thing T d)
theorem body_l_bag (T : TpF "read_thing" fa fn bx ts w K mg) {X : Cx} {W : WX} (d : JD P w K mg base nm_l_bag (defScope (top 39)) vw_l_bag 0 X W) : JB X W (defBody (top 39)) t_l_bag :=
  jb_cons (js_set d.toJC 2 rfl (.inl (d.toJC.sC.loc 2 (mm 2) _ rfl)) (je_int)) (jb_cons (js_if (jt_cmp opD_lt (jv d.toJC 1 (mm 1) rfl) (je_callB d.toJC cd_len (mm 0) (T.free 3) (by decide +kernel) (ja_cons (jv d.toJC 0 (mm 0) rfl) (ja_nil))) rfl) (jb_one (js_set d.toJC 2 rfl (.inl (d.toJC.sC.loc 2 (mm 2) _ rfl)) (je_ix (jv d.toJC 0 (mm 0) rfl) (jv d.toJC 1 (mm 1) rfl)))) (jb_nil)) (jb_cons (js_set d.toJC 3 rfl (.inl (d.toJC.sC.loc 3 (mm 3) _ rfl)) (je_int)) (jb_cons (js_if (jt_cmp opD_ge (je_callB d.toJC cd_abs (mm 1) (T.free 19) (by decide +kernel) (ja_cons (jv d.toJC 2 (mm 2) rfl) (ja_nil))) (je_op opD_pow (je_int) (je_int)) rfl) (jb_one (js_set d.toJC 3 rfl (.inl (d.toJC.sC.loc 3 (mm 3) _ rfl)) (je_callB d.toJC cd_abs (mm 1) (T.free 19) (by decide +kernel) (ja_cons (jv d.toJC 2 (mm 2) rfl) (ja_nil))))) (jb_nil)) (jb_cons (js_set d.toJC 4 rfl (.inl (d.toJC.sC.loc 4 (mm 4) _ rfl)) (je_lst (ja_cons (je_int) (ja_cons (je_int) (ja_cons (je_int) (ja_cons (je_int) (ja_cons (je_int) (ja_cons (je_int) (ja_cons (je_int) (ja_cons (je_int) (ja_nil))))))))))) (jb_one (js_ret (je_lstR (ja_cons (jv d.toJC 3 (mm 3) rfl) (ja_cons (je_op opD_mod (je_op opD_pow (je_op opD_add (je_op opD_add (je_op opD_mod (jv d.toJC 2 (mm 2) rfl) (je_int)) (je_op opD_mul (je_int) (jv d.toJC 1 (mm 1) rfl))) (je_int)) (je_int)) (je_ix (jv d.toJC 4 (mm 4) rfl) (je_op opD_mod (jv d.toJC 1 (mm 1) rfl) (je_int)))) (ja_nil))))))))))
theorem Tj_l_bag (T : TpF "read_thing" fa fn bx ts w K mg) : JF P w K mg base "_law_bag" 2 [] (fun ds _ => ds) 1 m_l_bag := by
  obtain ⟨fd, F⟩ := T.sy.def_ 3 (d := d_l_bag) rfl
  exact jf_mkN F fs_l_bag sc_l_bag (T.glo 4) ⟨rfl, by decide, by decide⟩ (fun _ _ _ _ _ _ us hl => match us, hl with | [_, _], _ => rfl) (fun X W d => body_l_bag T d)
theorem body_l_take (T : TpF "read_thing" fa fn bx ts w K mg) {X : Cx} {W : WX} (d : JD P w K mg base nm_l_take (defScope (top 40)) vw_l_take 0 X W) : JB X W (defBody (top 40)) t_l_take :=
  jb_cons (js_if (jt_cmp opD_gt (je_ix (jv d.toJC 0 (mm 0) rfl) (je_int)) (je_int) rfl) (jb_cons (js_set d.toJC 2 rfl (.inl (d.toJC.sC.loc 2 (mm 2) _ rfl)) (je_op opD_mod (je_ix (jv d.toJC 0 (mm 0) rfl) (je_int)) (jv d.toJC 1 (mm 1) rfl))) (jb_cons (js_sub (jv d.toJC 0 (mm 0) rfl) (je_int) (je_op opD_div (je_ix (jv d.toJC 0 (mm 0) rfl) (je_int)) (jv d.toJC 1 (mm 1) rfl))) (jb_one (js_ret (jv d.toJC 2 (mm 2) rfl))))) (jb_nil)) (jb_cons (js_sub (jv d.toJC 0 (mm 0) rfl) (je_int) (je_op opD_mod (je_op opD_add (je_op opD_mul (je_ix (jv d.toJC 0 (mm 0) rfl) (je_int)) (je_int)) (je_int)) (je_int))) (jb_one (js_ret (je_op opD_mod (je_op opD_mod (je_op opD_pow (je_op opD_div (je_ix (jv d.toJC 0 (mm 0) rfl) (je_int)) (je_int)) (je_int)) (je_int)) (jv d.toJC 1 (mm 1) rfl)))))
theorem Tj_l_take (T : TpF "read_thing" fa fn bx ts w K mg) : JF P w K mg base "_law_take" 2 [] (fun ds _ => ds) 1 m_l_take := by
  obtain ⟨fd, F⟩ := T.sy.def_ 4 (d := d_l_take) rfl
  exact jf_mkN F fs_l_take sc_l_take (T.glo 5) ⟨rfl, by decide, by decide⟩ (fun _ _ _ _ _ _ us hl => match us, hl with | [_, _], _ => rfl) (fun X W d => body_l_take T d)
theorem body_l_turned (T : TpF "read_thing" fa fn bx ts w K mg) {X : Cx} {W : WX} (d : JD P w K mg base nm_l_turned (defScope (top 41)) vw_l_turned 0 X W) : JB X W (defBody (top 41)) t_l_turned :=
  jb_cons (js_asg (jv d.toJC 0 (mm 0) rfl) (jg_tup d.toJC.calm (jgs_cons (jg_name d.toJC 2 rfl (.inl (d.toJC.sC.loc 2 (mm 2) _ rfl))) (jgs_cons (jg_name d.toJC 3 rfl (.inl (d.toJC.sC.loc 3 (mm 3) _ rfl))) (jgs_nil))))) (jb_cons (js_for d (ji_r1 d.toJC (mm 0) (T.free 0) (ja_cons (je_op opD_mod (jv d.toJC 1 (mm 1) rfl) (je_int)) (ja_nil))) (jg_name d.toJC 4 rfl (.inl (d.toJC.sC.loc 4 (mm 4) _ rfl))) (jb_one (js_par d.toJC 2 3 rfl rfl (by decide) (d.toJC.sC.loc 2 (mm 2) _ rfl) (d.toJC.sC.loc 3 (mm 3) _ rfl) (ja_cons (je_op opD_sub (je_int) (jv d.toJC 3 (mm 3) rfl)) (ja_cons (jv d.toJC 2 (mm 2) rfl) (ja_nil))) (sw2 d.toJC.kd (by rw [d.toJC.ss]; exact (d.toJC.sC.loc 2 (mm 2) _ rfl)) (by rw [d.toJC.ss]; exact (d.toJC.sC.loc 3 (mm 3) _ rfl)) rfl (by decide +kernel) rfl rfl rfl)))) (jb_one (js_ret (je_tup (ja_cons (jv d.toJC 2 (mm 2) rfl) (ja_cons (jv d.toJC 3 (mm 3) rfl) (ja_nil)))))))
theorem Tj_l_turned (T : TpF "read_thing" fa fn bx ts w K mg) : JF P w K mg base "_law_turned" 2 [] (fun ds _ => ds) 1 m_l_turned := by
  obtain ⟨fd, F⟩ := T.sy.def_ 5 (d := d_l_turned) rfl
  exact jf_mkN F fs_l_turned sc_l_turned (T.glo 21) ⟨rfl, by decide, by decide⟩ (fun _ _ _ _ _ _ us hl => match us, hl with | [_, _], _ => rfl) (fun X W d => body_l_turned T d)
theorem body_l_thing (T : TpF "read_thing" fa fn bx ts w K mg) {X : Cx} {W : WX} (d : JD P w K mg base nm_l_thing (defScope (top 42)) vw_l_thing 1 X W) : JB X W (defBody (top 42)) t_l_thing :=
  jb_cons (js_par d.toJC 3 4 rfl rfl (by decide) (d.toJC.sC.loc 3 (mm 3) _ rfl) (d.toJC.sC.loc 4 (mm 4) _ rfl) (ja_cons (je_op opD_add (je_int) (je_call d.toJC (Tj_l_take T) (by decide) (mm 0) (ja_cons (jv d.toJC 0 (mm 0) rfl) (ja_cons (je_int) (ja_nil))))) (ja_cons (je_call d.toJC (Tj_l_take T) (by decide) (mm 0) (ja_cons (jv d.toJC 0 (mm 0) rfl) (ja_cons (je_int) (ja_nil)))) (ja_nil))) (sw2 d.toJC.kd (by rw [d.toJC.ss]; exact (d.toJC.sC.loc 3 (mm 3) _ rfl)) (by rw [d.toJC.ss]; exact (d.toJC.sC.loc 4 (mm 4) _ rfl)) rfl (by decide +kernel) rfl rfl rfl)) (jb_cons (js_set d.toJC 5 rfl (.inl (d.toJC.sC.loc 5 (mm 5) _ rfl)) (je_tup (ja_cons (je_op opD_sub (je_call d.toJC (Tj_l_take T) (by decide) (mm 0) (ja_cons (jv d.toJC 0 (mm 0) rfl) (ja_cons (je_op opD_add (je_op opD_mul (je_int) (jv d.toJC 1 (mm 1) rfl)) (je_int)) (ja_nil)))) (jv d.toJC 1 (mm 1) rfl)) (ja_cons (je_op opD_sub (je_call d.toJC (Tj_l_take T) (by decide) (mm 0) (ja_cons (jv d.toJC 0 (mm 0) rfl) (ja_cons (je_op opD_add (je_op opD_mul (je_int) (jv d.toJC 1 (mm 1) rfl)) (je_int)) (ja_nil)))) (jv d.toJC 1 (mm 1) rfl)) (ja_nil))))) (jb_cons (js_set d.toJC 6 rfl (.inl (d.toJC.sC.loc 6 (mm 6) _ rfl)) (je_lst (ja_cons (je_tup (ja_cons (je_int) (ja_cons (je_int) (ja_nil)))) (ja_cons (je_tup (ja_cons (je_int) (ja_cons (je_int) (ja_nil)))) (ja_cons (je_tup (ja_cons (je_int) (ja_cons (je_int) (ja_nil)))) (ja_cons (je_tup (ja_cons (je_int) (ja_cons (je_int) (ja_nil)))) (ja_cons (je_tup (ja_cons (je_int) (ja_cons (je_int) (ja_nil)))) (ja_cons (je_tup (ja_cons (je_int) (ja_cons (je_int) (ja_nil)))) (ja_cons (je_tup (ja_cons (je_int) (ja_cons (je_int) (ja_nil)))) (ja_cons (je_tup (ja_cons (je_int) (ja_cons (je_int) (ja_nil)))) (ja_nil))))))))))) (jb_cons (js_set d.toJC 7 rfl (.inl (d.toJC.sC.loc 7 (mm 7) _ rfl)) (je_lst (ja_cons (je_tup (ja_cons (je_tup (ja_cons (je_int) (ja_cons (je_int) (ja_nil)))) (ja_cons (je_tup (ja_cons (je_neg (je_int)) (ja_cons (je_int) (ja_nil)))) (ja_nil)))) (ja_cons (je_tup (ja_cons (je_tup (ja_cons (je_int) (ja_cons (je_int) (ja_nil)))) (ja_cons (je_tup (ja_cons (je_neg (je_int)) (ja_cons (je_int) (ja_nil)))) (ja_nil)))) (ja_cons (je_tup (ja_cons (je_tup (ja_cons (je_int) (ja_cons (je_int) (ja_nil)))) (ja_cons (je_tup (ja_cons (je_neg (je_int)) (ja_cons (je_int) (ja_nil)))) (ja_nil)))) (ja_cons (je_tup (ja_cons (je_tup (ja_cons (je_int) (ja_cons (je_int) (ja_nil)))) (ja_cons (je_tup (ja_cons (je_neg (je_int)) (ja_cons (je_int) (ja_nil)))) (ja_nil)))) (ja_cons (je_tup (ja_cons (je_tup (ja_cons (je_int) (ja_cons (je_int) (ja_nil)))) (ja_cons (je_tup (ja_cons (je_neg (je_int)) (ja_cons (je_int) (ja_nil)))) (ja_nil)))) (ja_nil)))))))) (jb_cons (js_set d.toJC 7 rfl (.inl (d.toJC.sC.loc 7 (mm 7) _ rfl)) (je_op opD_cat (jv d.toJC 7 (mm 7) rfl) (je_lst (ja_cons (je_tup (ja_cons (je_tup (ja_cons (je_int) (ja_cons (je_int) (ja_nil)))) (ja_cons (je_tup (ja_cons (je_int) (ja_cons (je_int) (ja_nil)))) (ja_nil)))) (ja_cons (je_tup (ja_cons (je_tup (ja_cons (je_int) (ja_cons (je_int) (ja_nil)))) (ja_cons (je_tup (ja_cons (je_neg (je_int)) (ja_cons (je_int) (ja_nil)))) (ja_nil)))) (ja_cons (je_tup (ja_cons (je_tup (ja_cons (je_int) (ja_cons (je_int) (ja_nil)))) (ja_cons (je_tup (ja_cons (je_neg (je_int)) (ja_cons (je_neg (je_int)) (ja_nil)))) (ja_nil)))) (ja_cons (je_tup (ja_cons (je_tup (ja_cons (je_int) (ja_cons (je_int) (ja_nil)))) (ja_cons (je_tup (ja_cons (je_neg (je_int)) (ja_cons (je_int) (ja_nil)))) (ja_nil)))) (ja_nil)))))))) (jb_cons (js_if (jt_cmp opD_lt (jv d.toJC 2 (mm 2) rfl) (je_int) rfl) (jb_one (js_ret (je_tup (ja_cons (je_str) (ja_cons (jv d.toJC 5 (mm 5) rfl) (ja_nil)))))) (jb_nil)) (jb_cons (js_set d.toJC 8 rfl (.inl (d.toJC.sC.loc 8 (mm 8) _ rfl)) (je_lst (ja_cons (je_ix (jv d.toJC 6 (mm 6) rfl) (je_call d.toJC (Tj_l_take T) (by decide) (mm 0) (ja_cons (jv d.toJC 0 (mm 0) rfl) (ja_cons (je_int) (ja_nil))))) (ja_nil)))) (jb_cons (js_if (jt_cmp opD_gt (jv d.toJC 2 (mm 2) rfl) (je_int) rfl) (jb_one (js_set d.toJC 8 rfl (.inl (d.toJC.sC.loc 8 (mm 8) _ rfl)) (je_callTy d.toJC cd_lst (mm 1) (T.free 20) (by decide +kernel) (ja_cons (je_ix (jv d.toJC 7 (mm 7) rfl) (je_call d.toJC (Tj_l_take T) (by decide) (mm 0) (ja_cons (jv d.toJC 0 (mm 0) rfl) (ja_cons (je_int) (ja_nil))))) (ja_nil))))) (jb_nil)) (jb_cons (js_set d.toJC 9 rfl (.inl (d.toJC.sC.loc 9 (mm 9) _ rfl)) (je_lstR (ja_nil))) (jb_cons (js_for d (ji_val (jv d.toJC 8 (mm 8) rfl)) (jg_name d.toJC 10 rfl (.inl (d.toJC.sC.loc 10 (mm 10) _ rfl))) (jb_cons (js_asg (je_call d.toJC (Tj_l_turned T) (by decide) (mm 2) (ja_cons (je_tup (ja_cons (je_op opD_mul (je_ix (jv d.toJC 10 (mm 10) rfl) (je_int)) (jv d.toJC 3 (mm 3) rfl)) (ja_cons (je_op opD_mul (je_ix (jv d.toJC 10 (mm 10) rfl) (je_int)) (jv d.toJC 3 (mm 3) rfl)) (ja_nil)))) (ja_cons (jv d.toJC 4 (mm 4) rfl) (ja_nil)))) (jg_tup d.toJC.calm (jgs_cons (jg_name d.toJC 11 rfl (.inl (d.toJC.sC.loc 11 (mm 11) _ rfl))) (jgs_cons (jg_name d.toJC 12 rfl (.inl (d.toJC.sC.loc 12 (mm 12) _ rfl))) (jgs_nil))))) (jb_one (js_expr (je_append (jv d.toJC 9 (mm 9) rfl) (ja_cons (je_tup (ja_cons (je_op opD_add (je_ix (jv d.toJC 5 (mm 5) rfl) (je_int)) (jv d.toJC 11 (mm 11) rfl)) (ja_cons (je_op opD_add (je_ix (jv d.toJC 5 (mm 5) rfl) (je_int)) (jv d.toJC 12 (mm 12) rfl)) (ja_nil)))) (ja_nil))))))) (jb_cons (js_if (jt_cmp opD_lt (jv d.toJC 2 (mm 2) rfl) (je_int) rfl) (jb_one (js_ret (je_tup (ja_cons (je_str) (ja_cons (jv d.toJC 5 (mm 5) rfl) (ja_cons (je_ix (jv d.toJC 9 (mm 9) rfl) (je_int)) (ja_nil))))))) (jb_nil)) (jb_one (js_ret (je_tup (ja_cons (je_str) (ja_cons (jv d.toJC 5 (mm 5) rfl) (ja_cons (je_ix (jv d.toJC 9 (mm 9) rfl) (je_int)) (ja_cons (je_ix (jv d.toJC 9 (mm 9) rfl) (je_int)) (ja_nil))))))))))))))))))
theorem Tj_l_thing (T : TpF "read_thing" fa fn bx ts w K mg) : JF P w K mg base "_law_thing" 3 [] (fun ds _ => ds) 2 m_l_thing := by
  obtain ⟨fd, F⟩ := T.sy.def_ 6 (d := d_l_thing) rfl
  exact jf_mkN F fs_l_thing sc_l_thing (T.glo 6) ⟨rfl, by decide, by decide⟩ (fun _ _ _ _ _ _ us hl => match us, hl with | [_, _, _], _ => rfl) (fun X W d => body_l_thing T d)
theorem body_l_fraction_text (T : TpF "read_thing" fa fn bx ts w K mg) {X : Cx} {W : WX} (d : JD P w K mg base nm_l_fraction_text (defScope (top 45)) vw_l_fraction_text 0 X W) : JB X W (defBody (top 45)) t_l_fraction_text :=
  jb_one (js_ret (je_op opD_add (je_callTy d.toJC cd_strI (mm 0) (T.free 18) (by decide +kernel) (ja_cons (je_ix (jv d.toJC 0 (mm 0) rfl) (je_int)) (ja_nil))) (je_op opD_mulS (je_op opD_add (je_str) (je_callTy d.toJC cd_strI (mm 0) (T.free 18) (by decide +kernel) (ja_cons (je_ix (jv d.toJC 0 (mm 0) rfl) (je_int)) (ja_nil)))) (je_callTy d.toJC cd_int (mm 1) (T.free 23) (by decide +kernel) (ja_cons (je_cmp (opD_ne d.toJC.room) (je_ix (jv d.toJC 0 (mm 0) rfl) (je_int)) (je_int) rfl) (ja_nil))))))
theorem Tj_l_fraction_text (T : TpF "read_thing" fa fn bx ts w K mg) : JF P w K mg base "_law_fraction_text" 1 [] (fun ds _ => ds) 1 m_l_fraction_text := by
  obtain ⟨fd, F⟩ := T.sy.def_ 7 (d := d_l_fraction_text) rfl
  exact jf_mkN F fs_l_fraction_text sc_l_fraction_text (T.glo 24) ⟨rfl, by decide, by decide⟩ (fun _ _ _ _ _ _ us hl => match us, hl with | [_], _ => rfl) (fun X W d => body_l_fraction_text T d)
theorem body_l_place_text (T : TpF "read_thing" fa fn bx ts w K mg) {X : Cx} {W : WX} (d : JD P w K mg base nm_l_place_text (defScope (top 46)) vw_l_place_text 1 X W) : JB X W (defBody (top 46)) t_l_place_text :=
  jb_one (js_ret (je_join (je_str) (je_lc d.toJC (own := [(".0", 1), ("_law_one", 2)]) (vw2 := vb0_l_place_text) (by decide +kernel) (scOf (by decide +kernel)) (by decide) (ji_val (jv d.toJC 0 (mm 0) rfl)) (fun _ c0 => jg_name c0 2 rfl (.inl (c0.sC.loc 2 (mm 1) _ rfl))) (fun _ c0 => jts_nil) (fun _ c0 => je_ifExp (jt_tru (je_isi c0 (mm 0) (T.free 15) (mm 1) (T.free 23) (by decide +kernel) (jv c0 2 (mm 1) rfl))) (je_callTy c0 cd_strI (mm 2) (T.free 18) (by decide +kernel) (ja_cons (jv c0 2 (mm 1) rfl) (ja_nil))) (je_call c0 (Tj_l_fraction_text T) (by decide) (mm 3) (ja_cons (jv c0 2 (mm 1) rfl) (ja_nil)))) (by walk_at "mo" <;> first | with_reducible exact (Tj_l_fraction_text (P := P) (w := w) (base := base) T).mo) (by walk_at "mo" <;> first | with_reducible exact (Tj_l_fraction_text (P := P) (w := w) (base := base) T).mo))))
theorem Tj_l_place_text (T : TpF "read_thing" fa fn bx ts w K mg) : JF P w K mg base "_law_place_text" 1 [] (fun ds _ => ds) 2 m_l_place_text := by
  obtain ⟨fd, F⟩ := T.sy.def_ 8 (d := d_l_place_text) rfl
  exact jf_mkN F fs_l_place_text sc_l_place_text (T.glo 22) ⟨rfl, by decide, by decide⟩ (fun _ _ _ _ _ _ us hl => match us, hl with | [_], _ => rfl) (fun X W d => body_l_place_text T d)
theorem body_l_thing_text (T : TpF "read_thing" fa fn bx ts w K mg) {X : Cx} {W : WX} (d : JD P w K mg base nm_l_thing_text (defScope (top 47)) vw_l_thing_text 2 X W) : JB X W (defBody (top 47)) t_l_thing_text :=
  jb_one (js_ret (je_join (je_str) (je_op opD_cat (je_lst (ja_cons (je_ix (jv d.toJC 0 (mm 0) rfl) (je_int)) (ja_nil))) (je_lc d.toJC (own := [(".0", 1), ("_law_spot", 2)]) (vw2 := vb0_l_thing_text) (by decide +kernel) (scOf (by decide +kernel)) (by decide) (ji_val (je_sl (jv d.toJC 0 (mm 0) rfl) (jo_some (je_int)) (jo_none))) (fun _ c0 => jg_name c0 2 rfl (.inl (c0.sC.loc 2 (mm 1) _ rfl))) (fun _ c0 => jts_nil) (fun _ c0 => je_call c0 (Tj_l_place_text T) (by decide) (mm 0) (ja_cons (jv c0 2 (mm 1) rfl) (ja_nil))) (by walk_at "mo" <;> first | with_reducible exact (Tj_l_place_text (P := P) (w := w) (base := base) T).mo) (by walk_at "mo" <;> first | with_reducible exact (Tj_l_place_text (P := P) (w := w) (base := base) T).mo)))))
theorem Tj_l_thing_text (T : TpF "read_thing" fa fn bx ts w K mg) : JF P w K mg base "_law_thing_text" 1 [] (fun ds _ => ds) 3 m_l_thing_text := by
  obtain ⟨fd, F⟩ := T.sy.def_ 9 (d := d_l_thing_text) rfl
  exact jf_mkN F fs_l_thing_text sc_l_thing_text (T.glo 7) ⟨rfl, by decide, by decide⟩ (fun _ _ _ _ _ _ us hl => match us, hl with | [_], _ => rfl) (fun X W d => body_l_thing_text T d)
theorem body_whole_root (T : TpF "read_thing" fa fn bx ts w K mg) {X : Cx} {W : WX} (d : JD P w K mg base nm_whole_root (defScope (top 14)) vw_whole_root 0 X W) : JB X W (defBody (top 14)) t_whole_root :=
  jb_cons (js_if (jt_cmp (opD_eq d.toJC.room) (jv d.toJC 0 (mm 0) rfl) (je_int) rfl) (jb_one (js_ret (je_int))) (jb_nil)) (jb_cons (js_set d.toJC 1 rfl (.inl (d.toJC.sC.loc 1 (mm 1) _ rfl)) (je_op opD_shl (je_int) (je_op opD_div (je_op opD_add (je_bits (jv d.toJC 0 (mm 0) rfl)) (je_int)) (je_int)))) (jb_cons (js_while d (jt_cmp opD_gt (je_op opD_mul (jv d.toJC 1 (mm 1) rfl) (jv d.toJC 1 (mm 1) rfl)) (jv d.toJC 0 (mm 0) rfl) rfl) (jb_one (js_set d.toJC 1 rfl (.inl (d.toJC.sC.loc 1 (mm 1) _ rfl)) (je_op opD_div (je_op opD_add (jv d.toJC 1 (mm 1) rfl) (je_op opD_div (jv d.toJC 0 (mm 0) rfl) (jv d.toJC 1 (mm 1) rfl))) (je_int))))) (jb_one (js_ret (jv d.toJC 1 (mm 1) rfl)))))
theorem Tj_whole_root (T : TpF "read_thing" fa fn bx ts w K mg) : JF P w K mg base "whole_root" 1 [] (fun ds _ => ds) 1 m_whole_root := by
  obtain ⟨fd, F⟩ := T.sy.def_ 10 (d := d_whole_root) rfl
  exact jf_mkN F fs_whole_root sc_whole_root (T.glo 48) ⟨rfl, by decide, by decide⟩ (fun _ _ _ _ _ _ us hl => match us, hl with | [_], _ => rfl) (fun X W d => body_whole_root T d)
theorem body_is_square (T : TpF "read_thing" fa fn bx ts w K mg) {X : Cx} {W : WX} (d : JD P w K mg base nm_is_square (defScope (top 15)) vw_is_square 1 X W) : JB X W (defBody (top 15)) t_is_square :=
  jb_one (js_ret (je_cmp (opD_eq d.toJC.room) (je_op opD_pow (je_call d.toJC (Tj_whole_root T) (by decide) (mm 0) (ja_cons (jv d.toJC 0 (mm 0) rfl) (ja_nil))) (je_int)) (jv d.toJC 0 (mm 0) rfl) rfl))
theorem Tj_is_square (T : TpF "read_thing" fa fn bx ts w K mg) : JF P w K mg base "is_square" 1 [] (fun ds _ => ds) 2 m_is_square := by
  obtain ⟨fd, F⟩ := T.sy.def_ 11 (d := d_is_square) rfl
  exact jf_mkN F fs_is_square sc_is_square (T.glo 46) ⟨rfl, by decide, by decide⟩ (fun _ _ _ _ _ _ us hl => match us, hl with | [_], _ => rfl) (fun X W d => body_is_square T d)
theorem body_is_whole (T : TpF "read_thing" fa fn bx ts w K mg) {X : Cx} {W : WX} (d : JD P w K mg base nm_is_whole (defScope (top 17)) vw_is_whole 0 X W) : JB X W (defBody (top 17)) t_is_whole :=
  jb_one (js_ret (je_and (je_isi d.toJC (mm 0) (T.free 15) (mm 1) (T.free 23) (by decide +kernel) (jv d.toJC 0 (mm 0) rfl)) (je_one (je_not (je_isi d.toJC (mm 0) (T.free 15) (mm 2) (T.free 53) (by decide +kernel) (jv d.toJC 0 (mm 0) rfl))))))
theorem Tj_is_whole (T : TpF "read_thing" fa fn bx ts w K mg) : JF P w K mg base "is_whole" 1 [] (fun ds _ => ds) 1 m_is_whole := by
  obtain ⟨fd, F⟩ := T.sy.def_ 12 (d := d_is_whole) rfl
  exact jf_mkN F fs_is_whole sc_is_whole (T.glo 52) ⟨rfl, by decide, by decide⟩ (fun _ _ _ _ _ _ us hl => match us, hl with | [_], _ => rfl) (fun X W d => body_is_whole T d)
theorem body_is_row (T : TpF "read_thing" fa fn bx ts w K mg) {X : Cx} {W : WX} (d : JD P w K mg base nm_is_row (defScope (top 18)) vw_is_row 0 X W) : JB X W (defBody (top 18)) t_is_row :=
  jb_one (js_ret (je_and (je_isi d.toJC (mm 0) (T.free 15) (mm 1) (T.free 16) (by decide +kernel) (jv d.toJC 0 (mm 0) rfl)) (je_one (je_cmp (opD_eq d.toJC.room) (je_callB d.toJC cd_len (mm 2) (T.free 3) (by decide +kernel) (ja_cons (jv d.toJC 0 (mm 0) rfl) (ja_nil))) (jv d.toJC 1 (mm 1) rfl) rfl))))
theorem Tj_is_row (T : TpF "read_thing" fa fn bx ts w K mg) : JF P w K mg base "is_row" 2 [] (fun ds _ => ds) 1 m_is_row := by
  obtain ⟨fd, F⟩ := T.sy.def_ 13 (d := d_is_row) rfl
  exact jf_mkN F fs_is_row sc_is_row (T.glo 51) ⟨rfl, by decide, by decide⟩ (fun _ _ _ _ _ _ us hl => match us, hl with | [_, _], _ => rfl) (fun X W d => body_is_row T d)
theorem body_are_whole (T : TpF "read_thing" fa fn bx ts w K mg) {X : Cx} {W : WX} (d : JD P w K mg base nm_are_whole (defScope (top 19)) vw_are_whole 1 X W) : JB X W (defBody (top 19)) t_are_whole :=
  jb_one (js_ret (je_and (je_call d.toJC (Tj_is_row T) (by decide) (mm 0) (ja_cons (jv d.toJC 0 (mm 0) rfl) (ja_cons (jv d.toJC 1 (mm 1) rfl) (ja_nil)))) (je_one (je_callB d.toJC (cd_all d.toJC.calm) (mm 1) (T.free 43) (by decide +kernel) (ja_cons (je_lc d.toJC (own := [(".0", 2), ("one", 3)]) (vw2 := vb0_are_whole) (by decide +kernel) (scOf (by decide +kernel)) (by decide) (ji_val (jv d.toJC 0 (mm 0) rfl)) (fun _ c0 => jg_name c0 3 rfl (.inl (c0.sC.loc 3 (mm 1) _ rfl))) (fun _ c0 => jts_nil) (fun _ c0 => je_call c0 (Tj_is_whole T) (by decide) (mm 0) (ja_cons (jv c0 3 (mm 1) rfl) (ja_nil))) (by walk_at "mo" <;> first | with_reducible exact (Tj_is_whole (P := P) (w := w) (base := base) T).mo) (by walk_at "mo" <;> first | with_reducible exact (Tj_is_whole (P := P) (w := w) (base := base) T).mo)) (ja_nil))))))
theorem Tj_are_whole (T : TpF "read_thing" fa fn bx ts w K mg) : JF P w K mg base "are_whole" 2 [] (fun ds _ => ds) 2 m_are_whole := by
  obtain ⟨fd, F⟩ := T.sy.def_ 14 (d := d_are_whole) rfl
  exact jf_mkN F fs_are_whole sc_are_whole (T.glo 49) ⟨rfl, by decide, by decide⟩ (fun _ _ _ _ _ _ us hl => match us, hl with | [_, _], _ => rfl) (fun X W d => body_are_whole T d)
theorem body_is_point (T : TpF "read_thing" fa fn bx ts w K mg) {X : Cx} {W : WX} (d : JD P w K mg base nm_is_point (defScope (top 23)) vw_is_point 2 X W) : JB X W (defBody (top 23)) t_is_point :=
  jb_one (js_ret (je_and (je_call d.toJC (Tj_are_whole T) (by decide) (mm 0) (ja_cons (jv d.toJC 0 (mm 0) rfl) (ja_cons (je_int) (ja_nil)))) (je_one (je_callB d.toJC (cd_all d.toJC.calm) (mm 1) (T.free 43) (by decide +kernel) (ja_cons (je_lc d.toJC (own := [(".0", 1), ("one", 2)]) (vw2 := vb0_is_point) (by decide +kernel) (scOf (by decide +kernel)) (by decide) (ji_val (jv d.toJC 0 (mm 0) rfl)) (fun _ c0 => jg_name c0 2 rfl (.inl (c0.sC.loc 2 (mm 1) _ rfl))) (fun _ c0 => jts_nil) (fun _ c0 => je_chain opD_le opD_le (je_neg (je_glob c0 (mm 0) (Tk_MOST T))) (jv c0 2 (mm 1) rfl) (je_glob c0 (mm 0) (Tk_MOST T))) (by walk_at "mo") (by walk_at "mo")) (ja_nil))))))
theorem Tj_is_point (T : TpF "read_thing" fa fn bx ts w K mg) : JF P w K mg base "is_point" 1 [] (fun ds _ => ds) 3 m_is_point := by
  obtain ⟨fd, F⟩ := T.sy.def_ 15 (d := d_is_point) rfl
  exact jf_mkN F fs_is_point sc_is_point (T.glo 44) ⟨rfl, by decide, by decide⟩ (fun _ _ _ _ _ _ us hl => match us, hl with | [_], _ => rfl) (fun X W d => body_is_point T d)
theorem body_far_square (T : TpF "read_thing" fa fn bx ts w K mg) {X : Cx} {W : WX} (d : JD P w K mg base nm_far_square (defScope (top 24)) vw_far_square 0 X W) : JB X W (defBody (top 24)) t_far_square :=
  jb_one (js_ret (je_op opD_add (je_op opD_pow (je_op opD_sub (je_ix (jv d.toJC 0 (mm 0) rfl) (je_int)) (je_ix (jv d.toJC 1 (mm 1) rfl) (je_int))) (je_int)) (je_op opD_pow (je_op opD_sub (je_ix (jv d.toJC 0 (mm 0) rfl) (je_int)) (je_ix (jv d.toJC 1 (mm 1) rfl) (je_int))) (je_int))))
theorem Tj_far_square (T : TpF "read_thing" fa fn bx ts w K mg) : JF P w K mg base "far_square" 2 [] (fun ds _ => ds) 1 m_far_square := by
  obtain ⟨fd, F⟩ := T.sy.def_ 16 (d := d_far_square) rfl
  exact jf_mkN F fs_far_square sc_far_square (T.glo 45) ⟨rfl, by decide, by decide⟩ (fun _ _ _ _ _ _ us hl => match us, hl with | [_, _], _ => rfl) (fun X W d => body_far_square T d)
theorem body_cross_of (T : TpF "read_thing" fa fn bx ts w K mg) {X : Cx} {W : WX} (d : JD P w K mg base nm_cross_of (defScope (top 25)) vw_cross_of 0 X W) : JB X W (defBody (top 25)) t_cross_of :=
  jb_one (js_ret (je_op opD_sub (je_op opD_mul (je_ix (jv d.toJC 0 (mm 0) rfl) (je_int)) (je_ix (jv d.toJC 1 (mm 1) rfl) (je_int))) (je_op opD_mul (je_ix (jv d.toJC 0 (mm 0) rfl) (je_int)) (je_ix (jv d.toJC 1 (mm 1) rfl) (je_int)))))
theorem Tj_cross_of (T : TpF "read_thing" fa fn bx ts w K mg) : JF P w K mg base "cross_of" 2 [] (fun ds _ => ds) 1 m_cross_of := by
  obtain ⟨fd, F⟩ := T.sy.def_ 17 (d := d_cross_of) rfl
  exact jf_mkN F fs_cross_of sc_cross_of (T.glo 55) ⟨rfl, by decide, by decide⟩ (fun _ _ _ _ _ _ us hl => match us, hl with | [_, _], _ => rfl) (fun X W d => body_cross_of T d)
theorem body_step_from (T : TpF "read_thing" fa fn bx ts w K mg) {X : Cx} {W : WX} (d : JD P w K mg base nm_step_from (defScope (top 26)) vw_step_from 0 X W) : JB X W (defBody (top 26)) t_step_from :=
  jb_one (js_ret (je_tup (ja_cons (je_op opD_sub (je_ix (jv d.toJC 0 (mm 0) rfl) (je_int)) (je_ix (jv d.toJC 1 (mm 1) rfl) (je_int))) (ja_cons (je_op opD_sub (je_ix (jv d.toJC 0 (mm 0) rfl) (je_int)) (je_ix (jv d.toJC 1 (mm 1) rfl) (je_int))) (ja_nil)))))
theorem Tj_step_from (T : TpF "read_thing" fa fn bx ts w K mg) : JF P w K mg base "step_from" 2 [] (fun ds _ => ds) 1 m_step_from := by
  obtain ⟨fd, F⟩ := T.sy.def_ 18 (d := d_step_from) rfl
  exact jf_mkN F fs_step_from sc_step_from (T.glo 54) ⟨rfl, by decide, by decide⟩ (fun _ _ _ _ _ _ us hl => match us, hl with | [_, _], _ => rfl) (fun X W d => body_step_from T d)
theorem body_is_bow (T : TpF "read_thing" fa fn bx ts w K mg) {X : Cx} {W : WX} (d : JD P w K mg base nm_is_bow (defScope (top 27)) vw_is_bow 2 X W) : JB X W (defBody (top 27)) t_is_bow :=
  jb_cons (js_if (jt_w (jw_or (jt_cmp (opD_eq d.toJC.room) (jv d.toJC 1 (mm 1) rfl) (jv d.toJC 2 (mm 2) rfl) rfl) (jw_or1 (jt_cmp (opD_ne d.toJC.room) (je_call d.toJC (Tj_far_square T) (by decide) (mm 0) (ja_cons (jv d.toJC 0 (mm 0) rfl) (ja_cons (jv d.toJC 1 (mm 1) rfl) (ja_nil)))) (je_call d.toJC (Tj_far_square T) (by decide) (mm 0) (ja_cons (jv d.toJC 0 (mm 0) rfl) (ja_cons (jv d.toJC 2 (mm 2) rfl) (ja_nil)))) rfl)))) (jb_one (js_ret (je_bl))) (jb_nil)) (jb_cons (js_if (jt_w (jw_or (jt_not (jt_tru (je_call d.toJC (Tj_is_square T) (by decide) (mm 1) (ja_cons (je_call d.toJC (Tj_far_square T) (by decide) (mm 0) (ja_cons (jv d.toJC 0 (mm 0) rfl) (ja_cons (jv d.toJC 1 (mm 1) rfl) (ja_nil)))) (ja_nil))))) (jw_or1 (jt_not (jt_tru (je_call d.toJC (Tj_is_square T) (by decide) (mm 1) (ja_cons (je_call d.toJC (Tj_far_square T) (by decide) (mm 0) (ja_cons (jv d.toJC 1 (mm 1) rfl) (ja_cons (jv d.toJC 2 (mm 2) rfl) (ja_nil)))) (ja_nil)))))))) (jb_one (js_ret (je_bl))) (jb_nil)) (jb_one (js_ret (je_cmp opD_ge (je_call d.toJC (Tj_cross_of T) (by decide) (mm 2) (ja_cons (je_call d.toJC (Tj_step_from T) (by decide) (mm 3) (ja_cons (jv d.toJC 1 (mm 1) rfl) (ja_cons (jv d.toJC 0 (mm 0) rfl) (ja_nil)))) (ja_cons (je_call d.toJC (Tj_step_from T) (by decide) (mm 3) (ja_cons (jv d.toJC 2 (mm 2) rfl) (ja_cons (jv d.toJC 0 (mm 0) rfl) (ja_nil)))) (ja_nil)))) (je_int) rfl))))
theorem Tj_is_bow (T : TpF "read_thing" fa fn bx ts w K mg) : JF P w K mg base "is_bow" 3 [] (fun ds _ => ds) 3 m_is_bow := by
  obtain ⟨fd, F⟩ := T.sy.def_ 19 (d := d_is_bow) rfl
  exact jf_mkN F fs_is_bow sc_is_bow (T.glo 47) ⟨rfl, by decide, by decide⟩ (fun _ _ _ _ _ _ us hl => match us, hl with | [_, _, _], _ => rfl) (fun X W d => body_is_bow T d)
theorem body_is_thing (T : TpF "read_thing" fa fn bx ts w K mg) {X : Cx} {W : WX} (d : JD P w K mg base nm_is_thing (defScope (top 28)) vw_is_thing 3 X W) : JB X W (defBody (top 28)) t_is_thing :=
  jb_cons (js_if (jt_w (jw_or (jt_not (jt_tru (je_isi d.toJC (mm 0) (T.free 15) (mm 1) (T.free 16) (by decide +kernel) (jv d.toJC 0 (mm 0) rfl)))) (jw_or (jt_cmp opD_lt (je_callB d.toJC cd_len (mm 2) (T.free 3) (by decide +kernel) (ja_cons (jv d.toJC 0 (mm 0) rfl) (ja_nil))) (je_int) rfl) (jw_or (jt_not (jt_tru (je_isi d.toJC (mm 0) (T.free 15) (mm 3) (T.free 18) (by decide +kernel) (je_ix (jv d.toJC 0 (mm 0) rfl) (je_int))))) (jw_or1 (jt_notInW d.toJC (mm 4) (T.glo 42) (T.tab 0 _ rfl) (all_at T.bx 4 rfl) (je_ix (jv d.toJC 0 (mm 0) rfl) (je_int)))))))) (jb_one (js_ret (je_bl))) (jb_nil)) (jb_cons (js_star (i := 1) (aft := 0) d.toJC.calm (jv d.toJC 0 (mm 0) rfl) (jgs_cons (jg_name d.toJC 1 rfl (.inl (d.toJC.sC.loc 1 (mm 1) _ rfl))) (jgs_cons (jg_name d.toJC 2 rfl (.inl (d.toJC.sC.loc 2 (mm 2) _ rfl))) (jgs_nil)))) (jb_cons (js_if (jt_w (jw_or (jt_cmp (opD_ne d.toJC.room) (je_callB d.toJC cd_len (mm 2) (T.free 3) (by decide +kernel) (ja_cons (jv d.toJC 2 (mm 2) rfl) (ja_nil))) (je_ixW d.toJC (mm 4) (T.glo 42) (T.tab 0 _ rfl) (all_at T.bx 4 rfl) (jv d.toJC 1 (mm 1) rfl)) rfl) (jw_or1 (jt_not (jt_tru (je_callB d.toJC (cd_all d.toJC.calm) (mm 5) (T.free 43) (by decide +kernel) (ja_cons (je_lc d.toJC (own := [(".0", 3), ("one", 4)]) (vw2 := vb0_is_thing) (by decide +kernel) (scOf (by decide +kernel)) (by decide) (ji_val (jv d.toJC 2 (mm 2) rfl)) (fun _ c0 => jg_name c0 4 rfl (.inl (c0.sC.loc 4 (mm 1) _ rfl))) (fun _ c0 => jts_nil) (fun _ c0 => je_call c0 (Tj_is_point T) (by decide) (mm 0) (ja_cons (jv c0 4 (mm 1) rfl) (ja_nil))) (by walk_at "mo" <;> first | with_reducible exact (Tj_is_point (P := P) (w := w) (base := base) T).mo) (by walk_at "mo" <;> first | with_reducible exact (Tj_is_point (P := P) (w := w) (base := base) T).mo)) (ja_nil)))))))) (jb_one (js_ret (je_bl))) (jb_nil)) (jb_cons (js_if (jt_cmp (opD_eq d.toJC.room) (jv d.toJC 1 (mm 1) rfl) (je_str) rfl) (jb_one (js_ret (je_bl))) (jb_nil)) (jb_cons (js_if (jt_cmp (opD_eq d.toJC.room) (jv d.toJC 1 (mm 1) rfl) (je_str) rfl) (jb_one (js_ret (je_and (je_cmp (opD_ne d.toJC.room) (je_ix (jv d.toJC 2 (mm 2) rfl) (je_int)) (je_ix (jv d.toJC 2 (mm 2) rfl) (je_int)) rfl) (je_one (je_call d.toJC (Tj_is_square T) (by decide) (mm 6) (ja_cons (je_call d.toJC (Tj_far_square T) (by decide) (mm 7) (ja_cons (je_ix (jv d.toJC 2 (mm 2) rfl) (je_int)) (ja_cons (je_ix (jv d.toJC 2 (mm 2) rfl) (je_int)) (ja_nil)))) (ja_nil))))))) (jb_nil)) (jb_one (js_ret (je_call d.toJC (Tj_is_bow T) (by decide) (mm 8) (ja_cons (je_ix (jv d.toJC 2 (mm 2) rfl) (je_int)) (ja_cons (je_ix (jv d.toJC 2 (mm 2) rfl) (je_int)) (ja_cons (je_ix (jv d.toJC 2 (mm 2) rfl) (je_int)) (ja_nil)))))))))))
theorem Tj_is_thing (T : TpF "read_thing" fa fn bx ts w K mg) : JF P w K mg base "is_thing" 1 [] (fun ds _ => ds) 4 m_is_thing := by
  obtain ⟨fd, F⟩ := T.sy.def_ 20 (d := d_is_thing) rfl
  exact jf_mkN F fs_is_thing sc_is_thing (T.glo 40) ⟨rfl, by decide, by decide⟩ (fun _ _ _ _ _ _ us hl => match us, hl with | [_], _ => rfl) (fun X W d => body_is_thing T d)
theorem body_whole_in (T : TpF "read_thing" fa fn bx ts w K mg) {X : Cx} {W : WX} (d : JD P w K mg base nm_whole_in (defScope (top 34)) vw_whole_in 0 X W) : JB X W (defBody (top 34)) t_whole_in :=
  jb_cons (js_set d.toJC 1 rfl (.inl (d.toJC.sC.loc 1 (mm 1) _ rfl)) (je_ifExp (jt_tru (je_startswith (jv d.toJC 0 (mm 0) rfl) (je_str))) (je_sl (jv d.toJC 0 (mm 0) rfl) (jo_some (je_int)) (jo_none)) (jv d.toJC 0 (mm 0) rfl))) (jb_cons (js_if (jt_w (jw_or (jt_cmp (opD_eq d.toJC.room) (jv d.toJC 1 (mm 1) rfl) (je_str) rfl) (jw_or1 (jt_not (jt_tru (je_callB d.toJC (cd_all d.toJC.calm) (mm 0) (T.free 43) (by decide +kernel) (ja_cons (je_lc d.toJC (own := [(".0", 2), ("sign", 3)]) (vw2 := vb0_whole_in) (by decide +kernel) (scOf (by decide +kernel)) (by decide) (ji_str (jv d.toJC 1 (mm 1) rfl)) (fun _ c0 => jg_name c0 3 rfl (.inl (c0.sC.loc 3 (mm 1) _ rfl))) (fun _ c0 => jts_nil) (fun _ c0 => je_cmp (opD_in c0.room) (jv c0 3 (mm 1) rfl) (je_glob c0 (mm 0) (Tk_FIGURES T)) rfl) (by walk_at "mo") (by walk_at "mo")) (ja_nil)))))))) (jb_one (js_ret (je_non))) (jb_nil)) (jb_cons (js_if (jt_w (jw_and (jt_cmp (opD_eq d.toJC.room) (je_ix (jv d.toJC 1 (mm 1) rfl) (je_int)) (je_str) rfl) (jw_and1 (jt_cmp (opD_ne d.toJC.room) (jv d.toJC 0 (mm 0) rfl) (je_str) rfl)))) (jb_one (js_ret (je_non))) (jb_nil)) (jb_one (js_ret (je_callTy d.toJC cd_intS (mm 1) (T.free 23) (by decide +kernel) (ja_cons (jv d.toJC 0 (mm 0) rfl) (ja_nil)))))))
theorem Tj_whole_in (T : TpF "read_thing" fa fn bx ts w K mg) : JF P w K mg base "whole_in" 1 [] (fun ds _ => ds) 1 m_whole_in := by
  obtain ⟨fd, F⟩ := T.sy.def_ 21 (d := d_whole_in) rfl
  exact jf_mkN F fs_whole_in sc_whole_in (T.glo 57) ⟨rfl, by decide, by decide⟩ (fun _ _ _ _ _ _ us hl => match us, hl with | [_], _ => rfl) (fun X W d => body_whole_in T d)
theorem body_point_in (T : TpF "read_thing" fa fn bx ts w K mg) {X : Cx} {W : WX} (d : JD P w K mg base nm_point_in (defScope (top 35)) vw_point_in 1 X W) : JB X W (defBody (top 35)) t_point_in :=
  jb_cons (js_set d.toJC 1 rfl (.inl (d.toJC.sC.loc 1 (mm 1) _ rfl)) (je_callTy d.toJC cd_tup (mm 0) (T.free 16) (by decide +kernel) (ja_cons (je_lc d.toJC (own := [(".0", 2), ("part", 3)]) (vw2 := vb0_point_in) (by decide +kernel) (scOf (by decide +kernel)) (by decide) (ji_val (je_split (jv d.toJC 0 (mm 0) rfl) (je_str))) (fun _ c0 => jg_name c0 3 rfl (.inl (c0.sC.loc 3 (mm 1) _ rfl))) (fun _ c0 => jts_nil) (fun _ c0 => je_call c0 (Tj_whole_in T) (by decide) (mm 0) (ja_cons (jv c0 3 (mm 1) rfl) (ja_nil))) (by walk_at "mo" <;> first | with_reducible exact (Tj_whole_in (P := P) (w := w) (base := base) T).mo) (by walk_at "mo" <;> first | with_reducible exact (Tj_whole_in (P := P) (w := w) (base := base) T).mo)) (ja_nil)))) (jb_one (js_ret (je_ifExp (jt_w (jw_and (jt_cmp (opD_eq d.toJC.room) (je_callB d.toJC cd_len (mm 1) (T.free 3) (by decide +kernel) (ja_cons (jv d.toJC 1 (mm 1) rfl) (ja_nil))) (je_int) rfl) (jw_and1 (jt_cmp (opD_notIn d.toJC.room) (je_non) (jv d.toJC 1 (mm 1) rfl) rfl)))) (jv d.toJC 1 (mm 1) rfl) (je_non))))
theorem Tj_point_in (T : TpF "read_thing" fa fn bx ts w K mg) : JF P w K mg base "point_in" 1 [] (fun ds _ => ds) 2 m_point_in := by
  obtain ⟨fd, F⟩ := T.sy.def_ 22 (d := d_point_in) rfl
  exact jf_mkN F fs_point_in sc_point_in (T.glo 56) ⟨rfl, by decide, by decide⟩ (fun _ _ _ _ _ _ us hl => match us, hl with | [_], _ => rfl) (fun X W d => body_point_in T d)
theorem body_thing_in (T : TpF "read_thing" fa fn bx ts w K mg) {X : Cx} {W : WX} (d : JD P w K mg base nm_thing_in (defScope (top 36)) vw_thing_in 2 X W) : JB X W (defBody (top 36)) t_thing_in :=
  jb_cons (js_star (i := 1) (aft := 0) d.toJC.calm (jv d.toJC 0 (mm 0) rfl) (jgs_cons (jg_name d.toJC 1 rfl (.inl (d.toJC.sC.loc 1 (mm 1) _ rfl))) (jgs_cons (jg_name d.toJC 2 rfl (.inl (d.toJC.sC.loc 2 (mm 2) _ rfl))) (jgs_nil)))) (jb_cons (js_if (jt_w (jw_or (jt_notInW d.toJC (mm 0) (T.glo 42) (T.tab 0 _ rfl) (all_at T.bx 4 rfl) (jv d.toJC 1 (mm 1) rfl)) (jw_or1 (jt_cmp (opD_ne d.toJC.room) (je_callB d.toJC cd_len (mm 1) (T.free 3) (by decide +kernel) (ja_cons (jv d.toJC 2 (mm 2) rfl) (ja_nil))) (je_ixW d.toJC (mm 0) (T.glo 42) (T.tab 0 _ rfl) (all_at T.bx 4 rfl) (jv d.toJC 1 (mm 1) rfl)) rfl)))) (jb_one (js_ret (je_non))) (jb_nil)) (jb_cons (js_setLc d.toJC 3 rfl (d.toJC.sC.loc 3 (mm 3) _ rfl) rfl (by decide +kernel) (own := [(".0", 4), ("one", 5)]) (vw2 := vb0_thing_in) (by decide +kernel) (scOf (by decide +kernel)) (by decide) (ji_val (jv d.toJC 2 (mm 2) rfl)) (fun _ c0 => jg_name c0 5 rfl (.inl (c0.sC.loc 5 (mm 1) _ rfl))) (fun _ c0 => jts_nil) (fun _ c0 => je_call c0 (Tj_point_in T) (by decide) (mm 0) (ja_cons (jv c0 5 (mm 1) rfl) (ja_nil))) (by walk_at "mo" <;> first | with_reducible exact (Tj_point_in (P := P) (w := w) (base := base) T).mo) (by walk_at "mo" <;> first | with_reducible exact (Tj_point_in (P := P) (w := w) (base := base) T).mo)) (jb_one (js_ret (je_ifExp (jt_cmp (opD_in d.toJC.room) (je_non) (jv d.toJC 3 (mm 3) rfl) rfl) (je_non) (je_callTy d.toJC cd_tup (mm 2) (T.free 16) (by decide +kernel) (ja_cons (je_op opD_cat (je_lst (ja_cons (jv d.toJC 1 (mm 1) rfl) (ja_nil))) (jv d.toJC 3 (mm 3) rfl)) (ja_nil))))))))
theorem Tj_thing_in (T : TpF "read_thing" fa fn bx ts w K mg) : JF P w K mg base "thing_in" 1 [] (fun ds _ => ds) 3 m_thing_in := by
  obtain ⟨fd, F⟩ := T.sy.def_ 23 (d := d_thing_in) rfl
  exact jf_mkN F fs_thing_in sc_thing_in (T.glo 39) ⟨rfl, by decide, by decide⟩ (fun _ _ _ _ _ _ us hl => match us, hl with | [_], _ => rfl) (fun X W d => body_thing_in T d)
theorem body_read_thing (T : TpF "read_thing" fa fn bx ts w K mg) {X : Cx} {W : WX} (d : JD P w K mg base nm_read_thing (defScope (top 37)) vw_read_thing 4 X W) : JB X W (defBody (top 37)) t_read_thing :=
  jb_cons (js_set d.toJC 1 rfl (.inl (d.toJC.sC.loc 1 (mm 1) _ rfl)) (je_ifExp (jt_tru (je_isi d.toJC (mm 0) (T.free 15) (mm 1) (T.free 18) (by decide +kernel) (jv d.toJC 0 (mm 0) rfl))) (je_call d.toJC (Tj_thing_in T) (by decide) (mm 2) (ja_cons (je_split (jv d.toJC 0 (mm 0) rfl) (je_str)) (ja_nil))) (je_non))) (jb_cons (js_if (jt_w (jw_or (jt_cmp opD_is (jv d.toJC 1 (mm 1) rfl) (je_non) rfl) (jw_or1 (jt_not (jt_tru (je_call d.toJC (Tj_is_thing T) (by decide) (mm 3) (ja_cons (jv d.toJC 1 (mm 1) rfl) (ja_nil)))))))) (jb_one (js_raiseV d.toJC (mm 4) (T.sy.fact 37 rfl) (T.sy.fact 41 rfl) (T.glo 37))) (jb_nil)) (jb_one (js_ret (jv d.toJC 1 (mm 1) rfl))))
theorem Tj_read_thing (T : TpF "read_thing" fa fn bx ts w K mg) : JF P w K mg base "read_thing" 1 [] (fun ds _ => ds) 5 m_read_thing := by
  obtain ⟨fd, F⟩ := T.sy.def_ 24 (d := d_read_thing) rfl
  exact jf_mkN F fs_read_thing sc_read_thing (T.glo 9) ⟨rfl, by decide, by decide⟩ (fun _ _ _ _ _ _ us hl => match us, hl with | [_], _ => rfl) (fun X W d => body_read_thing T d)
theorem body_l_read (T : TpF "read_thing" fa fn bx ts w K mg) {X : Cx} {W : WX} (d : JD P w K mg base nm_l_read (defScope (top 48)) vw_l_read 5 X W) : JB X W (defBody (top 48)) t_l_read :=
  jb_one (js_try_as d 2 rfl (mm 2) (mm 0) (T.glo 37) (fun nm b Cn h hn => by obtain ⟨rfl, rfl⟩ := sbOne_eq h; rw [← ga_eq hn]; exact He.exm_ok (T.sy.fact 38 rfl)) (fun _ _ d => jb_one (js_ret (je_callS d.toJC 0 (mm 0) rfl (Tj_read_thing T) ((T.glo 9).trans (by rw [T.fnA])) (by decide) (ja_cons (jv d.toJC 1 (mm 1) rfl) (ja_nil))))) (fun _ _ => (by (repeat first | exact moNx | exact moIsE | exact moRetN | refine moSeq ?_ ?_ | refine moAsg ?_ | refine moRet ?_ | refine moIfS ?_ ?_ ?_ | exact moVr _ | exact moCn _ | exact moNilA | exact moAdd | exact moSub | exact moMul | exact moDiv | exact moMod | exact moLt | exact moLe | exact moGt | exact moGe | exact moEq | exact moNe | exact moIs | exact moIsNot | exact moIn _ | exact moIx | refine moTwo ?_ ?_ ?_ | refine moConsA ?_ ?_ | refine moTup ?_ | refine moTbl ?_ | refine moTtr ?_ | refine moAndD ?_ ?_ | refine moOrD ?_ ?_ | refine moNotD ?_ | refine moVOf ?_ | refine moEIf ?_ ?_ ?_ | refine moIsi ?_))) (fun X2 a Dc nm h hn c => by obtain ⟨rfl, _⟩ := sbOne_eq h; have ee := ga_eq hn; subst ee; exact jb_cons (js_set0 c.toJC0 3 rfl (mm 3) (je_isT c 2 (excC_ok (all_at T.bx 0 rfl)) (mm 2) rfl (mm 1) (T.free 15) (pcls_cons c.toJC0 (mm 2) (clU_own (T.sy.fact 34 rfl) (T.glo 34)) (pcls_cons c.toJC0 (mm 3) (clU_own (T.sy.fact 33 rfl) (T.glo 33)) (pcls_cons c.toJC0 (mm 4) (clU_own (T.sy.fact 32 rfl) (T.glo 32)) (pcls_cons c.toJC0 (mm 5) (clU_own (T.sy.fact 31 rfl) (T.glo 31)) (pcls_cons c.toJC0 (mm 6) (clU_own (T.sy.fact 30 rfl) (T.glo 30)) (pcls_cons c.toJC0 (mm 7) (clU_own (T.sy.fact 29 rfl) (T.glo 29)) (pcls_cons c.toJC0 (mm 8) (clU_own (T.sy.fact 28 rfl) (T.glo 28)) (pcls_cons c.toJC0 (mm 9) (clU_own (T.sy.fact 27 rfl) (T.glo 27)) (pcls_cons c.toJC0 (mm 10) (clU_own (T.sy.fact 26 rfl) (T.glo 26)) (pcls_cons c.toJC0 (mm 11) (clU_own (T.sy.fact 25 rfl) (T.glo 25)) pcls_nil)))))))))) (Nat.le_of_ble_eq_true rfl) (fun _ h => by cases h; exact of_decide_eq_true (all_at T.bx 1 rfl)))) (jb_one (js_ret (je_ifExp (jt_w (jw_and (jt_tru (je_isE c 2 (excC_ok (all_at T.bx 0 rfl)) (mm 2) rfl (mm 1) (T.free 15) (mm 12) (clU_own (T.sy.fact 35 rfl) (T.glo 35)) (fun _ h => by cases h; exact of_decide_eq_true (all_at T.bx 2 rfl)))) (jw_and (jt_tru (je_isE c 2 (excC_ok (all_at T.bx 0 rfl)) (mm 2) rfl (mm 1) (T.free 15) (mm 13) (clU_blt (T := "ValueError") (T.sy.fact 36 rfl) (T.free 36) (by decide +kernel)) (fun _ h => by cases h; exact of_decide_eq_true (all_at T.bx 3 rfl)))) (jw_and1 (jt_not (jt_tru (jv0 c.toJC0 3 (mm 3) rfl))))))) (je_str) (je_str))))))
theorem Tj_l_read (T : TpF "read_thing" fa fn bx ts w K mg) : JF P w K mg base "_law_read" 2 [] (fun ds _ => ds) 6 m_l_read := by
  obtain ⟨fd, F⟩ := T.sy.def_ 25 (d := d_l_read) rfl
  exact jf_mkN F fs_l_read sc_l_read (T.glo 10) ⟨rfl, by decide, by decide⟩ (fun _ _ _ _ _ _ us hl => match us, hl with | [_, _], _ => rfl) (fun X W d => body_l_read T d)
theorem body_l_bent (T : TpF "read_thing" fa fn bx ts w K mg) {X : Cx} {W : WX} (d : JD P w K mg base nm_l_bent (defScope (top 49)) vw_l_bent 1 X W) : JB X W (defBody (top 49)) t_l_bent :=
  jb_cons (js_set d.toJC 2 rfl (.inl (d.toJC.sC.loc 2 (mm 2) _ rfl)) (je_op opD_add (je_str) (je_str))) (jb_cons (js_for d (ji_r1 d.toJC (mm 0) (T.free 0) (ja_cons (je_op opD_add (je_int) (je_call d.toJC (Tj_l_take T) (by decide) (mm 1) (ja_cons (jv d.toJC 0 (mm 0) rfl) (ja_cons (je_int) (ja_nil))))) (ja_nil))) (jg_name d.toJC 3 rfl (.inl (d.toJC.sC.loc 3 (mm 3) _ rfl))) (jb_cons (js_par d.toJC 4 5 rfl rfl (by decide) (d.toJC.sC.loc 4 (mm 4) _ rfl) (d.toJC.sC.loc 5 (mm 5) _ rfl) (ja_cons (je_call d.toJC (Tj_l_take T) (by decide) (mm 1) (ja_cons (jv d.toJC 0 (mm 0) rfl) (ja_cons (je_int) (ja_nil)))) (ja_cons (je_call d.toJC (Tj_l_take T) (by decide) (mm 1) (ja_cons (jv d.toJC 0 (mm 0) rfl) (ja_cons (je_op opD_add (je_callB d.toJC cd_len (mm 2) (T.free 3) (by decide +kernel) (ja_cons (jv d.toJC 1 (mm 1) rfl) (ja_nil))) (je_int)) (ja_nil)))) (ja_nil))) (sw2 d.toJC.kd (by rw [d.toJC.ss]; exact (d.toJC.sC.loc 4 (mm 4) _ rfl)) (by rw [d.toJC.ss]; exact (d.toJC.sC.loc 5 (mm 5) _ rfl)) rfl (by decide +kernel) rfl rfl rfl)) (jb_cons (js_set d.toJC 6 rfl (.inl (d.toJC.sC.loc 6 (mm 6) _ rfl)) (je_ix (jv d.toJC 2 (mm 2) rfl) (je_call d.toJC (Tj_l_take T) (by decide) (mm 1) (ja_cons (jv d.toJC 0 (mm 0) rfl) (ja_cons (je_ix (je_lst (ja_cons (je_int) (ja_cons (je_callB d.toJC cd_len (mm 2) (T.free 3) (by decide +kernel) (ja_cons (jv d.toJC 2 (mm 2) rfl) (ja_nil))) (ja_nil)))) (je_call d.toJC (Tj_l_take T) (by decide) (mm 1) (ja_cons (jv d.toJC 0 (mm 0) rfl) (ja_cons (je_int) (ja_nil))))) (ja_nil)))))) (jb_cons (js_if (jt_cmp (opD_eq d.toJC.room) (jv d.toJC 4 (mm 4) rfl) (je_int) rfl) (jb_cons (js_set d.toJC 7 rfl (.inl (d.toJC.sC.loc 7 (mm 7) _ rfl)) (je_call d.toJC (Tj_l_take T) (by decide) (mm 1) (ja_cons (jv d.toJC 0 (mm 0) rfl) (ja_cons (je_op opD_add (je_callB d.toJC cd_len (mm 2) (T.free 3) (by decide +kernel) (ja_cons (jv d.toJC 1 (mm 1) rfl) (ja_nil))) (je_int)) (ja_nil))))) (jb_one (js_set d.toJC 6 rfl (.inl (d.toJC.sC.loc 6 (mm 6) _ rfl)) (je_sl (jv d.toJC 1 (mm 1) rfl) (jo_some (jv d.toJC 7 (mm 7) rfl)) (jo_some (je_op opD_add (jv d.toJC 7 (mm 7) rfl) (je_int))))))) (jb_nil)) (jb_cons (js_set d.toJC 8 rfl (.inl (d.toJC.sC.loc 8 (mm 8) _ rfl)) (je_sl (jv d.toJC 1 (mm 1) rfl) (jo_some (je_op opD_add (jv d.toJC 5 (mm 5) rfl) (je_callTy d.toJC cd_int (mm 3) (T.free 23) (by decide +kernel) (ja_cons (je_cmp (opD_ne d.toJC.room) (jv d.toJC 4 (mm 4) rfl) (je_int) rfl) (ja_nil))))) (jo_none))) (jb_one (js_set d.toJC 1 rfl (.inl (d.toJC.sC.loc 1 (mm 1) _ rfl)) (je_op opD_add (je_op opD_add (je_sl (jv d.toJC 1 (mm 1) rfl) (jo_none) (jo_some (jv d.toJC 5 (mm 5) rfl))) (je_op opD_mulS (jv d.toJC 6 (mm 6) rfl) (je_callTy d.toJC cd_int (mm 3) (T.free 23) (by decide +kernel) (ja_cons (je_cmp (opD_ne d.toJC.room) (jv d.toJC 4 (mm 4) rfl) (je_int) rfl) (ja_nil))))) (jv d.toJC 8 (mm 8) rfl))))))))) (jb_one (js_ret (jv d.toJC 1 (mm 1) rfl))))
theorem Tj_l_bent (T : TpF "read_thing" fa fn bx ts w K mg) : JF P w K mg base "_law_bent" 2 [] (fun ds _ => ds) 2 m_l_bent := by
  obtain ⟨fd, F⟩ := T.sy.def_ 26 (d := d_l_bent) rfl
  exact jf_mkN F fs_l_bent sc_l_bent (T.glo 11) ⟨rfl, by decide, by decide⟩ (fun _ _ _ _ _ _ us hl => match us, hl with | [_, _], _ => rfl) (fun X W d => body_l_bent T d)
theorem body_l_whole_in (T : TpF "read_thing" fa fn bx ts w K mg) {X : Cx} {W : WX} (d : JD P w K mg base nm_l_whole_in (defScope (top 44)) vw_l_whole_in 0 X W) : JB X W (defBody (top 44)) t_l_whole_in :=
  jb_cons (js_set d.toJC 1 rfl (.inl (d.toJC.sC.loc 1 (mm 1) _ rfl)) (je_ifExp (jt_cmp (opD_eq d.toJC.room) (je_sl (jv d.toJC 0 (mm 0) rfl) (jo_none) (jo_some (je_int))) (je_str) rfl) (je_sl (jv d.toJC 0 (mm 0) rfl) (jo_some (je_int)) (jo_none)) (jv d.toJC 0 (mm 0) rfl))) (jb_cons (js_if (jt_w (jw_or (jt_cmp (opD_eq d.toJC.room) (jv d.toJC 1 (mm 1) rfl) (je_str) rfl) (jw_or1 (jt_not (jt_tru (je_callB d.toJC (cd_all d.toJC.calm) (mm 0) (T.free 43) (by decide +kernel) (ja_cons (je_lc d.toJC (own := [(".0", 2), ("_law_sign", 3)]) (vw2 := vb0_l_whole_in) (by decide +kernel) (scOf (by decide +kernel)) (by decide) (ji_str (jv d.toJC 1 (mm 1) rfl)) (fun _ c0 => jg_name c0 3 rfl (.inl (c0.sC.loc 3 (mm 1) _ rfl))) (fun _ c0 => jts_nil) (fun _ c0 => je_cmp (opD_in c0.room) (jv c0 3 (mm 1) rfl) (je_str) rfl) (by walk_at "mo") (by walk_at "mo")) (ja_nil)))))))) (jb_one (js_ret (je_non))) (jb_nil)) (jb_cons (js_if (jt_w (jw_and (jt_cmp (opD_eq d.toJC.room) (je_ix (jv d.toJC 1 (mm 1) rfl) (je_int)) (je_str) rfl) (jw_and1 (jt_cmp (opD_ne d.toJC.room) (jv d.toJC 0 (mm 0) rfl) (je_str) rfl)))) (jb_one (js_ret (je_non))) (jb_nil)) (jb_one (js_ret (je_callTy d.toJC cd_intS (mm 1) (T.free 23) (by decide +kernel) (ja_cons (jv d.toJC 0 (mm 0) rfl) (ja_nil)))))))
theorem Tj_l_whole_in (T : TpF "read_thing" fa fn bx ts w K mg) : JF P w K mg base "_law_whole_in" 1 [] (fun ds _ => ds) 1 m_l_whole_in := by
  obtain ⟨fd, F⟩ := T.sy.def_ 27 (d := d_l_whole_in) rfl
  exact jf_mkN F fs_l_whole_in sc_l_whole_in (T.glo 59) ⟨rfl, by decide, by decide⟩ (fun _ _ _ _ _ _ us hl => match us, hl with | [_], _ => rfl) (fun X W d => body_l_whole_in T d)
theorem body_l_thing_in (T : TpF "read_thing" fa fn bx ts w K mg) {X : Cx} {W : WX} (d : JD P w K mg base nm_l_thing_in (defScope (top 50)) vw_l_thing_in 4 X W) : JB X W (defBody (top 50)) t_l_thing_in :=
  jb_cons (js_set d.toJC 1 rfl (.inl (d.toJC.sC.loc 1 (mm 1) _ rfl)) (je_split (jv d.toJC 0 (mm 0) rfl) (je_str))) (jb_cons (js_set d.toJC 2 rfl (.inl (d.toJC.sC.loc 2 (mm 2) _ rfl)) (je_slR (jv d.toJC 1 (mm 1) rfl) (jo_none) (jo_some (je_int)))) (jb_cons (js_for d (ji_val (je_sl (jv d.toJC 1 (mm 1) rfl) (jo_some (je_int)) (jo_none))) (jg_name d.toJC 3 rfl (.inl (d.toJC.sC.loc 3 (mm 3) _ rfl))) (jb_cons (js_set d.toJC 4 rfl (.inl (d.toJC.sC.loc 4 (mm 4) _ rfl)) (je_callTy d.toJC cd_tup (mm 0) (T.free 16) (by decide +kernel) (ja_cons (je_lc d.toJC (own := [(".0", 5), ("_law_part", 6)]) (vw2 := vb0_l_thing_in) (by decide +kernel) (scOf (by decide +kernel)) (by decide) (ji_val (je_split (jv d.toJC 3 (mm 3) rfl) (je_str))) (fun _ c0 => jg_name c0 6 rfl (.inl (c0.sC.loc 6 (mm 1) _ rfl))) (fun _ c0 => jts_nil) (fun _ c0 => je_call c0 (Tj_l_whole_in T) (by decide) (mm 0) (ja_cons (jv c0 6 (mm 1) rfl) (ja_nil))) (by walk_at "mo" <;> first | with_reducible exact (Tj_l_whole_in (P := P) (w := w) (base := base) T).mo) (by walk_at "mo" <;> first | with_reducible exact (Tj_l_whole_in (P := P) (w := w) (base := base) T).mo)) (ja_nil)))) (jb_cons (js_if (jt_w (jw_or (jt_cmp (opD_ne d.toJC.room) (je_callB d.toJC cd_len (mm 1) (T.free 3) (by decide +kernel) (ja_cons (jv d.toJC 4 (mm 4) rfl) (ja_nil))) (je_int) rfl) (jw_or1 (jt_cmp (opD_in d.toJC.room) (je_non) (jv d.toJC 4 (mm 4) rfl) rfl)))) (jb_one (js_frz 2 (js_ret (je_non)))) (jb_nil)) (jb_one (js_expr (je_append (jv d.toJC 2 (mm 2) rfl) (ja_cons (jv d.toJC 4 (mm 4) rfl) (ja_nil)))))))) (jb_one (js_frz 2 (js_ret (je_ifExp (jt_tru (je_call d.toJC (Tj_is_thing T) (by decide) (mm 2) (ja_cons (je_callTy d.toJC cd_tup (mm 0) (T.free 16) (by decide +kernel) (ja_cons (jv d.toJC 2 (mm 2) rfl) (ja_nil))) (ja_nil)))) (je_callTy d.toJC cd_tup (mm 0) (T.free 16) (by decide +kernel) (ja_cons (jv d.toJC 2 (mm 2) rfl) (ja_nil))) (je_non)))))))
theorem Tj_l_thing_in (T : TpF "read_thing" fa fn bx ts w K mg) : JF P w K mg base "_law_thing_in" 1 [] (fun ds _ => ds) 5 m_l_thing_in := by
  obtain ⟨fd, F⟩ := T.sy.def_ 28 (d := d_l_thing_in) rfl
  exact jf_mkN F fs_l_thing_in sc_l_thing_in (T.glo 13) ⟨rfl, by decide, by decide⟩ (fun _ _ _ _ _ _ us hl => match us, hl with | [_], _ => rfl) (fun X W d => body_l_thing_in T d)
theorem body_l_by_words (T : TpF "read_thing" fa fn bx ts w K mg) {X : Cx} {W : WX} (d : JD P w K mg base nm_l_by_words (defScope (top 51)) vw_l_by_words 1 X W) : JB X W (defBody (top 51)) t_l_by_words :=
  jb_cons (js_set d.toJC 2 rfl (.inl (d.toJC.sC.loc 2 (mm 2) _ rfl)) (je_splitR (jv d.toJC 1 (mm 1) rfl) (je_str))) (jb_cons (js_par d.toJC 3 4 rfl rfl (by decide) (d.toJC.sC.loc 3 (mm 3) _ rfl) (d.toJC.sC.loc 4 (mm 4) _ rfl) (ja_cons (je_call d.toJC (Tj_l_take T) (by decide) (mm 0) (ja_cons (jv d.toJC 0 (mm 0) rfl) (ja_cons (je_callB d.toJC cd_len (mm 1) (T.free 3) (by decide +kernel) (ja_cons (jv d.toJC 2 (mm 2) rfl) (ja_nil))) (ja_nil)))) (ja_cons (je_call d.toJC (Tj_l_take T) (by decide) (mm 0) (ja_cons (jv d.toJC 0 (mm 0) rfl) (ja_cons (je_callB d.toJC cd_len (mm 1) (T.free 3) (by decide +kernel) (ja_cons (jv d.toJC 2 (mm 2) rfl) (ja_nil))) (ja_nil)))) (ja_nil))) (sw2 d.toJC.kd (by rw [d.toJC.ss]; exact (d.toJC.sC.loc 3 (mm 3) _ rfl)) (by rw [d.toJC.ss]; exact (d.toJC.sC.loc 4 (mm 4) _ rfl)) rfl (by decide +kernel) rfl rfl rfl)) (jb_cons (js_set d.toJC 5 rfl (.inl (d.toJC.sC.loc 5 (mm 5) _ rfl)) (je_call d.toJC (Tj_l_take T) (by decide) (mm 0) (ja_cons (jv d.toJC 0 (mm 0) rfl) (ja_cons (je_int) (ja_nil))))) (jb_cons (js_if (jt_cmp (opD_eq d.toJC.room) (jv d.toJC 5 (mm 5) rfl) (je_int) rfl) (jb_one (js_expr (je_pop (jv d.toJC 2 (mm 2) rfl) (ja_cons (jv d.toJC 3 (mm 3) rfl) (ja_nil))))) (jb_one (js_if (jt_cmp (opD_eq d.toJC.room) (jv d.toJC 5 (mm 5) rfl) (je_int) rfl) (jb_one (js_expr (je_insert (jv d.toJC 2 (mm 2) rfl) (ja_cons (jv d.toJC 3 (mm 3) rfl) (ja_cons (je_ix (jv d.toJC 2 (mm 2) rfl) (jv d.toJC 4 (mm 4) rfl)) (ja_nil)))))) (jb_cons (js_set d.toJC 6 rfl (.inl (d.toJC.sC.loc 6 (mm 6) _ rfl)) (je_ix (jv d.toJC 2 (mm 2) rfl) (jv d.toJC 3 (mm 3) rfl))) (jb_cons (js_sub (jv d.toJC 2 (mm 2) rfl) (jv d.toJC 3 (mm 3) rfl) (je_ix (jv d.toJC 2 (mm 2) rfl) (jv d.toJC 4 (mm 4) rfl))) (jb_one (js_sub (jv d.toJC 2 (mm 2) rfl) (jv d.toJC 4 (mm 4) rfl) (jv d.toJC 6 (mm 6) rfl)))))))) (jb_one (js_frz 2 (js_ret (je_join (je_str) (jv d.toJC 2 (mm 2) rfl))))))))
theorem Tj_l_by_words (T : TpF "read_thing" fa fn bx ts w K mg) : JF P w K mg base "_law_by_words" 2 [] (fun ds _ => ds) 2 m_l_by_words := by
  obtain ⟨fd, F⟩ := T.sy.def_ 29 (d := d_l_by_words) rfl
  exact jf_mkN F fs_l_by_words sc_l_by_words (T.glo 12) ⟨rfl, by decide, by decide⟩ (fun _ _ _ _ _ _ us hl => match us, hl with | [_, _], _ => rfl) (fun X W d => body_l_by_words T d)
theorem body_law (T : TpF "read_thing" fa fn bx ts w K mg) {X : Cx} {W : WX} (d : JD P w K mg base nm_law (defScope (top 52)) vw_law 6 X W) : JB X W (defBody (top 52)) t_law :=
  jb_cons (js_for d (ji_r1 d.toJC (mm 0) (T.free 0) (ja_cons (je_callB d.toJC (cd_max d.toJC.calm) (mm 1) (T.free 1) (by decide +kernel) (ja_cons (je_int) (ja_cons (je_callB d.toJC (cd_min d.toJC.calm) (mm 2) (T.free 2) (by decide +kernel) (ja_cons (je_int) (ja_cons (je_callB d.toJC cd_len (mm 3) (T.free 3) (by decide +kernel) (ja_cons (jv d.toJC 0 (mm 0) rfl) (ja_nil))) (ja_nil)))) (ja_nil)))) (ja_nil))) (jg_name d.toJC 1 rfl (.inl (d.toJC.sC.loc 1 (mm 1) _ rfl))) (jb_cons (js_set d.toJC 2 rfl (.inr ⟨d.toJC.sC.cel 2 (mm 0) _ rfl, d.fn⟩) (je_call d.toJC (Tj_l_bag T) (by decide) (mm 4) (ja_cons (jv d.toJC 0 (mm 0) rfl) (ja_cons (jv d.toJC 1 (mm 1) rfl) (ja_nil))))) (jb_cons (js_set d.toJC 3 rfl (.inl (d.toJC.sC.loc 3 (mm 2) _ rfl)) (je_call d.toJC (Tj_l_thing T) (by decide) (mm 5) (ja_cons (jv d.toJC 2 (mm 2) rfl) (ja_cons (je_ix (je_lst (ja_cons (je_int) (ja_cons (je_int) (ja_nil)))) (je_call d.toJC (Tj_l_take T) (by decide) (mm 6) (ja_cons (jv d.toJC 2 (mm 2) rfl) (ja_cons (je_int) (ja_nil))))) (ja_cons (je_call d.toJC (Tj_l_take T) (by decide) (mm 6) (ja_cons (jv d.toJC 2 (mm 2) rfl) (ja_cons (je_int) (ja_nil)))) (ja_nil)))))) (jb_cons (js_set d.toJC 4 rfl (.inr ⟨d.toJC.sC.cel 4 (mm 1) _ rfl, d.fn⟩) (je_call d.toJC (Tj_l_thing_text T) (by decide) (mm 7) (ja_cons (jv d.toJC 3 (mm 3) rfl) (ja_nil)))) (jb_cons (js_if (jt_w (jw_or (jt_cmp (opD_ne d.toJC.room) (je_call d.toJC (Tj_show_thing T) (by decide) (mm 8) (ja_cons (jv d.toJC 3 (mm 3) rfl) (ja_nil))) (jv d.toJC 4 (mm 4) rfl) rfl) (jw_or1 (jt_cmp (opD_ne d.toJC.room) (je_call d.toJC (Tj_l_read T) (by decide) (mm 9) (ja_cons (je_gl d.toJC (mm 10) ((T.glo 9).trans (by rw [T.fnA]))) (ja_cons (jv d.toJC 4 (mm 4) rfl) (ja_nil)))) (jv d.toJC 3 (mm 3) rfl) rfl)))) (jb_one (js_ret (je_bl))) (jb_nil)) (jb_cons (js_set d.toJC 5 rfl (.inl (d.toJC.sC.loc 5 (mm 3) _ rfl)) (je_op opD_cat (je_lc d.toJC (own := [(".0", 9), ("_law_turn", 10)]) (vw2 := vb0_law) (by decide +kernel) (scOf (by decide +kernel)) (by decide) (ji_r1 d.toJC (mm 0) (T.free 0) (ja_cons (je_int) (ja_nil))) (fun _ c0 => jg_name c0 10 rfl (.inl (c0.sC.loc 10 (mm 1) _ rfl))) (fun _ c0 => jts_nil) (fun _ c0 => je_call c0 (Tj_l_bent T) (by decide) (mm 0) (ja_cons (jv c0 2 (mm 0) rfl) (ja_cons (jv c0 4 (mm 1) rfl) (ja_nil)))) (by walk_at "mo" <;> first | with_reducible exact (Tj_l_bent (P := P) (w := w) (base := base) T).mo) (by walk_at "mo" <;> first | with_reducible exact (Tj_l_bent (P := P) (w := w) (base := base) T).mo)) (je_lc d.toJC (own := [(".0", 9), ("_law_turn", 10)]) (vw2 := vb1_law) (by decide +kernel) (scOf (by decide +kernel)) (by decide) (ji_r1 d.toJC (mm 0) (T.free 0) (ja_cons (je_int) (ja_nil))) (fun _ c1 => jg_name c1 10 rfl (.inl (c1.sC.loc 10 (mm 1) _ rfl))) (fun _ c1 => jts_nil) (fun _ c1 => je_call c1 (Tj_l_by_words T) (by decide) (mm 0) (ja_cons (jv c1 2 (mm 0) rfl) (ja_cons (jv c1 4 (mm 1) rfl) (ja_nil)))) (by walk_at "mo" <;> first | with_reducible exact (Tj_l_bent (P := P) (w := w) (base := base) T).mo | with_reducible exact (Tj_l_by_words (P := P) (w := w) (base := base) T).mo) (by walk_at "mo" <;> first | with_reducible exact (Tj_l_bent (P := P) (w := w) (base := base) T).mo | with_reducible exact (Tj_l_by_words (P := P) (w := w) (base := base) T).mo)))) (jb_cons (js_set d.toJC 5 rfl (.inl (d.toJC.sC.loc 5 (mm 3) _ rfl)) (je_op opD_catG (jv d.toJC 5 (mm 5) rfl) (je_lst (ja_cons (je_call d.toJC (Tj_l_bent T) (by decide) (mm 11) (ja_cons (jv d.toJC 2 (mm 2) rfl) (ja_cons (je_str) (ja_nil)))) (ja_cons (je_str) (ja_cons (je_str) (ja_cons (je_str) (ja_cons (je_str) (ja_cons (je_str) (ja_cons (je_str) (ja_nil))))))))))) (jb_cons (js_set d.toJC 5 rfl (.inl (d.toJC.sC.loc 5 (mm 3) _ rfl)) (je_op opD_catG (jv d.toJC 5 (mm 5) rfl) (je_lst (ja_cons (je_str) (ja_cons (je_str) (ja_cons (je_str) (ja_cons (je_str) (ja_cons (je_str) (ja_nil))))))))) (jb_cons (js_set d.toJC 5 rfl (.inl (d.toJC.sC.loc 5 (mm 3) _ rfl)) (je_op opD_catG (jv d.toJC 5 (mm 5) rfl) (je_lst (ja_cons (je_str) (ja_cons (je_str) (ja_cons (je_str) (ja_cons (je_str) (ja_cons (je_str) (ja_cons (je_str) (ja_cons (je_str) (ja_nil))))))))))) (jb_cons (js_expr (je_append (jv d.toJC 5 (mm 5) rfl) (ja_cons (je_op opD_add (jv d.toJC 4 (mm 4) rfl) (je_str)) (ja_nil)))) (jb_cons (js_frz 5 (js_for d (ji_val (jv d.toJC 5 (mm 5) rfl)) (jg_name d.toJC 6 rfl (.inl (d.toJC.sC.loc 6 (mm 4) _ rfl))) (jb_cons (js_set d.toJC 7 rfl (.inl (d.toJC.sC.loc 7 (mm 5) _ rfl)) (je_call d.toJC (Tj_l_thing_in T) (by decide) (mm 12) (ja_cons (jv d.toJC 6 (mm 6) rfl) (ja_nil)))) (jb_one (js_if (jt_cmp (opD_ne d.toJC.room) (je_call d.toJC (Tj_l_read T) (by decide) (mm 9) (ja_cons (je_gl d.toJC (mm 10) ((T.glo 9).trans (by rw [T.fnA]))) (ja_cons (jv d.toJC 6 (mm 6) rfl) (ja_nil)))) (je_ifExp (jt_cmp opD_is (jv d.toJC 7 (mm 7) rfl) (je_non) rfl) (je_str) (jv d.toJC 7 (mm 7) rfl)) rfl) (jb_one (js_ret (je_bl))) (jb_nil)))))) (jb_one (js_for d (ji_val (je_tup (ja_cons (je_non) (ja_cons (je_int) (ja_cons (je_bl) (ja_cons (jv d.toJC 3 (mm 3) rfl) (ja_cons (je_lst (ja_cons (jv d.toJC 4 (mm 4) rfl) (ja_nil))) (ja_cons (je_tup (ja_cons (jv d.toJC 4 (mm 4) rfl) (ja_nil))) (ja_nil))))))))) (jg_name d.toJC 8 rfl (.inl (d.toJC.sC.loc 8 (mm 6) _ rfl))) (jb_one (js_if (jt_cmp (opD_ne d.toJC.room) (je_call d.toJC (Tj_l_read T) (by decide) (mm 9) (ja_cons (je_gl d.toJC (mm 10) ((T.glo 9).trans (by rw [T.fnA]))) (ja_cons (jv d.toJC 8 (mm 8) rfl) (ja_nil)))) (je_str) rfl) (jb_one (js_ret (je_bl))) (jb_nil)))))))))))))))) (jb_one (js_ret (je_bl)))
theorem ok_law (T : TpF "read_thing" fa fn bx ts w K mg) {f : Addr} {fd : FuncData} (F : FunD K d_law.name d_law.qual d_law.params d_law.body d_law.scope (d_law.dvs K) (d_law.kws K) f fd) : FnOk P w K mg base (L2.CX P w) 7 f fd ["_law_script"] (LSp K 1 m_law) :=
  ok_mkN F fs_law sc_law fun X W d => body_law T d
theorem mo_law {P : Program} {w : World} {base : Heap} (T : TpF "read_thing" fa fn bx ts w K mg) : MoF m_law := moFn (moS_of (k := 6) (P := P) (w := w) (base := base) fs_law sc_law ⟨rfl, by decide, by decide⟩ fun X W d => body_law T d)
end
end K69

namespace K69
open PySem PySem.Spec PyProof.Rows L2 Bl Lb
local macro_rules | `(tactic| walk_at "blz") => `(tactic| (with_reducible (first | refine gmt ?_ | refine gtx ?_ | refine gsw ?_ | refine gist ?_ | refine gist' ?_ | refine gfmt ?_ | refine gjn ?_ | refine js_cons ?_ | refine js_nil ?_)))
variable [FnA]
/-! ### whole numbers as texts -/
theorem ix_head {c : Nat} {r : List Nat} {S : Sto} {Q : DK} (h : (c :: r).length ≤ 640) (k : Q (.str (SX.S [c])) S) : fIx (.str (SX.S (c :: r))) (.int 0) S Q := by
  refine ⟨?_, ?_⟩
  · rw [SX.S_len]
    exact Nat.le_trans h (by decide)
  · rw [show (SX.S (c :: r)).cps.toList = c :: r from by simp, show atI (c :: r) (0 : Int) = some c from atI_nat (j := 0) rfl]
    exact k
theorem sl_from {l : List Nat} {S : Sto} {Q : DK} (h : 1 ≤ l.length) (h2 : l.length ≤ 640) (k : Q (.str (SX.S (l.drop 1))) S) : fSl (.str (SX.S l)) (some 1) none S Q := by
  refine ⟨?_, ?_⟩
  · rw [SX.S_len]
    exact Nat.le_trans h2 (by decide)
  · have := cut_from l 1 h
    rw [show ((1 : Nat) : Int) = 1 from rfl] at this
    rw [this]
    exact k
theorem sl_to {l : List Nat} {k : Nat} {S : Sto} {Q : DK} (h2 : l.length ≤ 640) (q : Q (.str (SX.S (l.take k))) S) : fSl (.str (SX.S l)) none (some (k : Int)) S Q := by
  refine ⟨?_, ?_⟩
  · rw [SX.S_len]
    exact Nat.le_trans h2 (by decide)
  · by_cases h : k ≤ l.length
    · rw [cut_to l k h]
      exact q
    · have e : cutS (SX.S l) none (some (k : Int)) = SX.S (l.take k) := by
        rw [C8.cutS_slice, SX.slice_to (Int.natCast_nonneg _), Int.toNat_natCast]
      rw [e]
      exact q
theorem figs_sm {l : List Nat} (hs : Sm l) : Sm (figs l) := by
  rw [figs_minus]
  split
  · exact ⟨by rw [List.length_drop]; have := hs.1; omega, fun c hc => hs.2 c (List.mem_of_mem_drop hc)⟩
  · exact hs
theorem whole_tail {l : List Nat} {d : D} (hd : d = .str "0123456789") {S : Sto} {Q : DK} {E : EK} (hs : Sm l) (k : Q (oD (wholeIn l)) S) : (sSeq (sIf (tOrD (tbl (dTwo (vr 1) (cn (.str "")) fEq)) (tNotD (ttr (dB bAll (aCons (dLc (iStrD (vr 1)) (.nm 3) (tYesD) (dTwo (vr 3) (cn d) (fIn false)) [2, 3]) (aNil)))))) (sRet (cn .non)) (sNx)) (sSeq (sIf (tAndD (tbl (dTwo (dTwo (vr 1) (cn (.int 0)) fIx) (cn (.str "0")) fEq)) (tbl (dTwo (vr 0) (cn (.str "0")) fNe))) (sRet (cn .non)) (sNx)) (sRet (dB bIntS (aCons (vr 0) (aNil)))))) [some (.str (SX.S l)), some (.str (SX.S (figs l))), none, none] S ⟨fun _ S1 => Q .non S1, Q, fun _ _ => False, fun _ _ => False, fun x _ S1 => E x S1⟩ := by
  subst hd
  have hf := figs_sm hs
  walk_at "bl"
  refine Go.eqS (ok_S hf.2) (ok_S (l := []) (fun _ h => by cases h)) (eq_S (figs l) []) ?_
  walk_at "bl"
  refine Go.ifD (fun h0 => ?_) fun h0 => ?_
  · walk_at "bl"
    have e : wholeIn l = none := by
      unfold wholeIn wholeOk
      rw [h0]
      rfl
    rw [e] at k
    exact k
  walk_at "bl"
  refine Go.lc' (by rw [List.length_map]; exact Nat.lt_of_le_of_lt hf.1 (by decide)) ?_
  walk_at "bl"
  refine lcGo_map (g := fun c => D.str ⟨#[c]⟩) (fun c => D.bl (fig c)) (fun c _ R q => ?_) ?_
  · show dTwo (vr 3) (cn (.str "0123456789")) (fIn false) [some (.str (SX.S l)), some (.str (SX.S (figs l))), none, some (.str ⟨#[c]⟩)] _ _ _
    walk_at "bl"
    exact in_fig q
  walk_at "bl"
  refine Go.allB (bls_map fig (figs l)) ?_
  walk_at "bl"
  refine Go.ifB (fun h1 => ?_) fun h1 => ?_
  rotate_left
  · walk_at "bl"
    have e : wholeIn l = none := by
      unfold wholeIn wholeOk
      rw [List.all_map] at h1
      have h1 : (figs l).all fig = false := h1
      rw [h1]
      simp
    rw [e] at k
    exact k
  have h1 : (figs l).all fig = true := by
    rw [List.all_map] at h1
    exact h1
  walk_at "bl"
  have fin : ((figs l).head? = some 48 → l = [48]) → bIntS [.str (SX.S l)] S Q := fun hh => by
    have hw : wholeOk l = true := by
      unfold wholeOk
      rw [h1]
      cases hc : figs l with
      | nil => exact absurd hc h0
      | cons c r =>
        rw [hc] at hh
        by_cases h48 : c = 48
        · have := hh (by rw [h48]; rfl)
          rw [decide_eq_true this]
          simp
        · have : ¬ ((c :: r).head? = some 48) := fun z => by
            cases z
            exact h48 rfl
          rw [decide_eq_false this]
          rfl
    refine ⟨wholeV l, int_ok hs hw, by rw [SX.S_len]; exact hs.1, ?_⟩
    unfold wholeIn at k
    rw [if_pos hw] at k
    exact k
  cases hc : figs l with
  | nil => exact absurd hc h0
  | cons c r =>
    rw [hc] at hf fin h1
    refine ix_head hf.1 ?_
    walk_at "bl"
    refine Go.eqS (ok_S (l := [c]) fun x hx => by rw [List.mem_singleton.mp hx]; exact hf.2 c (List.mem_cons_self ..)) (ok_S (l := [48]) (fun _ h => by rw [List.mem_singleton.mp h]; decide)) (eq_S [c] [48]) ?_
    walk_at "bl"
    refine Go.ifD (fun h2 => ?_) fun h2 => ?_
    · walk_at "bl"
      refine Go.neS (ok_S hs.2) (ok_S (l := [48]) (fun _ h => by rw [List.mem_singleton.mp h]; decide)) (congrArg (! ·) (eq_S l [48])) ?_
      walk_at "bl"
      refine Go.ifD (fun h3 => ?_) fun h3 => ?_
      · walk_at "bl"
        exact fin fun _ => h3
      · walk_at "bl"
        have e : wholeIn l = none := by
          unfold wholeIn wholeOk
          rw [hc, decide_eq_false h3]
          have : c = 48 := by
            injection h2
          subst this
          rw [if_neg]
          intro z
          simp at z
        rw [e] at k
        exact k
    · walk_at "bl"
      exact fin fun z => by
        cases z
        exact absurd rfl h2
theorem whole_in_spec {l : List Nat} {S : Sto} {Q : DK} {E : EK} (hs : Sm l) (k : Q (oD (wholeIn l)) S) : m_whole_in [.str (SX.S l)] S Q E := by
  have fin := whole_tail (l := l) (d := k_FIGURES) rfl (S := S) (Q := Q) (E := E) hs k
  refine e_whole_in ?_
  unfold t_whole_in
  walk_at "bl"
  rw [sw_minus]
  rw [figs_minus] at fin
  refine Go.ifD (fun h => ?_) fun h => ?_
  · rw [if_pos h] at fin
    walk_at "bl"
    refine sl_from ?_ hs.1 ?_
    · cases l with
      | nil => cases h
      | cons a r => exact Nat.succ_le_succ (Nat.zero_le _)
    walk_at "bl"
    exact fin
  · rw [if_neg h] at fin
    walk_at "bl"
    exact fin
theorem lwhole_in_spec {l : List Nat} {S : Sto} {Q : DK} {E : EK} (hs : Sm l) (k : Q (oD (wholeIn l)) S) : m_l_whole_in [.str (SX.S l)] S Q E := by
  have fin := whole_tail (l := l) rfl (S := S) (Q := Q) (E := E) hs k
  refine e_l_whole_in ?_
  unfold t_l_whole_in
  walk_at "bl"
  refine sl_to (k := 1) hs.1 ?_
  walk_at "bl"
  refine Go.eqS (ok_S (l := l.take 1) fun c hc => hs.2 c (List.mem_of_mem_take hc)) (ok_S (l := [45]) (fun _ h => by rw [List.mem_singleton.mp h]; decide)) (eq_S (l.take 1) [45]) ?_
  rw [figs_minus] at fin
  walk_at "bl"
  refine Go.ifD (fun h => ?_) fun h => ?_
  · have hh : l.head? = some 45 ∧ 1 ≤ l.length := by
      cases l with
      | nil => cases h
      | cons a r =>
        refine ⟨?_, Nat.succ_le_succ (Nat.zero_le _)⟩
        injection h with h
        rw [h]
        rfl
    rw [if_pos hh.1] at fin
    walk_at "bl"
    refine sl_from hh.2 hs.1 ?_
    walk_at "bl"
    exact fin
  · have hh : ¬ l.head? = some 45 := fun z => h (by
      cases l with
      | nil => cases z
      | cons a r =>
        cases z
        rfl)
    rw [if_neg hh] at fin
    walk_at "bl"
    exact fin
theorem is_whole_int {i : Int} {S : Sto} {Q : DK} {E : EK} (k : Q (.bl true) S) : m_is_whole [.int i] S Q E := by
  refine e_is_whole ?_
  unfold t_is_whole
  walk_at "bl"
  refine Go.isiK' (isi_int _) ?_
  walk_at "bl"
  refine Go.isiK' (isi_int_b _) ?_
  walk_at "bl"
  exact k
theorem are_whole_pr {a b : Int} {S : Sto} {Q : DK} {E : EK} (k : Q (.bl true) S) : m_are_whole [pr a b, .int 2] S Q E := by
  refine e_are_whole ?_
  unfold t_are_whole
  walk_at "bl"
  refine e_is_row ?_
  unfold t_is_row
  walk_at "bl"
  refine Go.isiK' (isi_tup _) ?_
  walk_at "bl"
  refine Go.ifDT rfl ?_
  walk_at "bl"
  refine is_whole_int ?_
  walk_at "bl"
  refine is_whole_int ?_
  walk_at "bl"
  exact k
theorem show_fraction_spec {p : Int × Int} {S : Sto} {Q : DK} {E : EK} (h : Pq p) (k : Q (.str (SX.S (fracText p))) S) : m_show_fraction [pr p.1 p.2] S Q E := by
  refine e_show_fraction ?_
  unfold t_show_fraction
  unfold fracText at k
  walk_at "bl"
  refine Go.ifD (fun h1 => ?_) fun h1 => ?_
  · rw [if_pos h1] at k
    walk_at "bl"
    refine strI_k h.1 ?_
    walk_at "bl"
    exact k
  · rw [if_neg h1] at k
    have l1 := (intL_sm h.1).1
    have l2 := (intL_sm h.2).1
    walk_at "bl"
    refine fmt_k h.1 ?_
    refine js_k (a := []) (b := intL p.1) (by rw [List.nil_append]; omega) ?_
    walk_at "bl"
    refine js_k (a := [] ++ intL p.1) (b := [47]) (by rw [List.nil_append, List.length_append, List.length_singleton]; omega) ?_
    walk_at "bl"
    refine fmt_k h.2 ?_
    refine js_k (a := [] ++ intL p.1 ++ [47]) (b := intL p.2) (by rw [List.nil_append, List.length_append, List.length_append, List.length_singleton]; omega) ?_
    walk_at "bl"
    rw [List.nil_append, List.append_assoc]
    exact k
theorem isi_int_t (i : Int) : isiD "tuple" (.int i) = some false := rfl
theorem show_spot_spec {x y : Int} {S : Sto} {Q : DK} {E : EK} (h1 : Pq (x, 1)) (h2 : Pq (y, 1)) (k : Q (.str (SX.S (placeText (x, 1) (y, 1)))) S) : m_show_place [pr x y] S Q E := by
  refine e_show_place ?_
  unfold t_show_place
  have l1 := fracText_len h1
  have l2 := fracText_len h2
  walk_at "bl"
  refine Go.isiK' (isi_int_t _) ?_
  walk_at "bl"
  refine show_fraction_spec (p := (x, 1)) h1 ?_
  walk_at "bl"
  refine Go.isiK' (isi_int_t _) ?_
  walk_at "bl"
  refine show_fraction_spec (p := (y, 1)) h2 ?_
  walk_at "bl"
  refine join_k (c := 44) (ys := [fracText (x, 1), fracText (y, 1)]) (by simp; omega) ?_
  exact k
theorem lspot_text_spec {x y : Int} {S : Sto} {Q : DK} {E : EK} (h1 : Pq (x, 1)) (h2 : Pq (y, 1)) (k : Q (.str (SX.S (placeText (x, 1) (y, 1)))) S) : m_l_place_text [pr x y] S Q E := by
  refine e_l_place_text ?_
  unfold t_l_place_text
  have l1 := fracText_len h1
  have l2 := fracText_len h2
  have e : ∀ i : Int, fracText (i, 1) = intL i := fun i => if_pos rfl
  rw [e] at l1 l2
  walk_at "bl"
  refine Go.isiK' (isi_int _) ?_
  walk_at "bl"
  refine strI_k h1.1 ?_
  walk_at "bl"
  refine Go.isiK' (isi_int _) ?_
  walk_at "bl"
  refine strI_k h2.1 ?_
  walk_at "bl"
  refine join_k (c := 44) (ys := [intL x, intL y]) (by simp; omega) ?_
  unfold placeText at k
  rw [e, e] at k
  exact k
theorem read_refused {d : D} {S : Sto} {Q : DK} {E : EK} (h : ∀ (Q : DK) (E : EK), E ⟨"NoText", []⟩ S → m_read_thing [d] S Q E) (k : Q (.str "none") S) : m_l_read [.obj FnA.rr, d] S Q E := by
  refine e_l_read ?_
  unfold t_l_read
  walk_at "bl"
  refine gcs rfl ?_
  walk_at "bl"
  refine ⟨rfl, rfl, h _ _ (ndT_ex (if_pos rfl) fun a => ?_)⟩
  exact ⟨rfl, rfl, rfl, k⟩
/-! ### what the law draws -/
theorem powG {i j : Int} {n m : Nat} {S : Sto} {Q : DK} (h : sm n i) (e : j = m) (hm : (n + 1) * m ≤ 2 ^ 27) (k : Q (.int (i ^ m)) S) : fPow (.int i) (.int j) S Q := by
  subst e
  have := h.bits
  refine ⟨by omega, ?_, by rw [Int.toNat_natCast]; exact k⟩
  have z : Builtin.Int.intBits i * m ≤ (n + 1) * m := Nat.mul_le_mul_right _ this
  have : (Builtin.Int.intBits i : Int) * (m : Int) = ((Builtin.Int.intBits i * m : Nat) : Int) := by rw [Int.natCast_mul]
  omega
theorem take_spec {a : Addr} {many : Int} {S : Sto} {Q : DK} {E : EK} (hb : Bg S a) (h0 : 0 < many) (h1 : sm 9000 many) (k : ∀ d S', 0 ≤ d → d < many → Bg S' a → Fr S S' a → Q (.int d) S') : m_l_take [.ref a, .int many] S Q E := by
  obtain ⟨c, m, e, hc, hm, hm2⟩ := hb
  unfold m_l_take t_l_take
  simp only [e, fnD, sNx, sSeq, sRet, sRetN, sDrop, sIf, sBrk, sCnt, sAsg, sPar, sAug, sSub, setD, sThru, asgT, asgL, itemsOf, vr, cn, dTwo, tbl, ttr, truD_bl, truD_int, truD_non, truD_tup, truD_lst, truD_str, truD_ref, tAndD, tOrD, tNotD, vOf, eIf, vNot, dNeg, fAdd_int, fAdd_tup, fSub, fMul, fDiv, fMod, fPow, fShl, fLt, fLe, fGt, fGe, fEq, fNe, fIx_tup, fIx_lst, fIx_ref, aNil, aCons, dTup, dLst, dLstR, dB, bAbs, bLen_tup, bLen_lst, bLen_ref, bMax, bMin, bInt_int, bInt_bl, dBits, dCall, iVal, iR1, iR2, List.map_cons, List.map_nil, List.length_cons, List.length_nil, List.replicate, List.cons_append, List.nil_append, List.append_nil, List.set, List.getElem?_cons_zero, List.getElem?_cons_succ, List.getElem?_nil, atI_0, atI_1, atI_2, ix20, ix21, sup_same, Nat.reduceAdd, Nat.reduceSub, Nat.succ_eq_add_one, decide_eq_true_eq, Bool.not_eq_true', decide_eq_false_iff_not, true_and, and_true, Bool.true_eq_false, Bool.false_eq_true, if_true, if_false, reduceCtorEq]
  split
  · rename_i hc0
    exact ⟨by omega, h1.cdiv (by omega) (by omega), k _ _ (fmod_pos h0).1 (fmod_pos h0).2 ⟨_, _, sup_same, fdiv_nonneg h0 hc, hm, hm2⟩ Fr.sup⟩
  · have g := fmod_pos (a := m * 48271 + 11) (b := 2147483647) (by omega)
    refine ⟨(sm.of (n := 32) (by omega)).cmul (sm.of (n := 32) (by decide)) (by decide), by decide, ⟨by decide, by decide⟩, by decide, ?_, by decide, by omega, k _ _ (fmod_pos h0).1 (fmod_pos h0).2 ⟨_, _, sup_same, hc, g.1, by omega⟩ Fr.sup⟩
    have z := (sm.of (n := 31) (i := ((m * 48271 + 11).fmod 2147483647).fdiv 8) (by rw [Int.fdiv_eq_ediv_of_nonneg _ (by decide)]; omega)).bits
    omega
theorem primes {d : Int} (h0 : 0 ≤ d) (h1 : d < 8) : ∃ p : Int, 0 < p ∧ p < 2147483648 ∧ atI [D.int 2147483629, .int 2147483587, .int 2147483579, .int 2147483563, .int 2147483549, .int 2147483543, .int 2147483497, .int 2147483489] d = some (.int p) := by
  rcases (by omega : d = (0 : Nat) ∨ d = (1 : Nat) ∨ d = (2 : Nat) ∨ d = (3 : Nat) ∨ d = (4 : Nat) ∨ d = (5 : Nat) ∨ d = (6 : Nat) ∨ d = (7 : Nat)) with h | h | h | h | h | h | h | h <;> subst h <;> exact ⟨_, by decide, by decide, atI_nat rfl⟩
theorem bag_spec {ns : List Int} {i : Int} {S : Sto} {Q : DK} {E : EK} (h : 0 ≤ i) (h2 : i < 10000) (k : ∀ a S', S a = none → Bg S' a → Fr S S' a → Q (.ref a) S') : m_l_bag [.lst (ns.map D.int), .int i] S Q E := by
  refine e_l_bag ?_
  unfold t_l_bag
  have fin : ∀ c : Int, (sSeq (sAsg (cn (.int 0)) (.nm 3)) (sSeq (sIf (tbl (dTwo (dB bAbs (aCons (vr 2) (aNil))) (dTwo (cn (.int 10)) (cn (.int 18)) fPow) fGe)) (sAsg (dB bAbs (aCons (vr 2) (aNil))) (.nm 3)) (sNx)) (sSeq (sAsg (dLst (aCons (cn (.int 2147483629)) (aCons (cn (.int 2147483587)) (aCons (cn (.int 2147483579)) (aCons (cn (.int 2147483563)) (aCons (cn (.int 2147483549)) (aCons (cn (.int 2147483543)) (aCons (cn (.int 2147483497)) (aCons (cn (.int 2147483489)) (aNil)))))))))) (.nm 4)) (sRet (dLstR (aCons (vr 3) (aCons (dTwo (dTwo (dTwo (dTwo (dTwo (vr 2) (cn (.int 2147483647)) fMod) (dTwo (cn (.int 104729)) (vr 1) fMul) fAdd) (cn (.int 7)) fAdd) (cn (.int 5)) fPow) (dTwo (vr 4) (dTwo (vr 1) (cn (.int 8)) fMod) fIx) fMod) (aNil)))))))) [some (.lst (ns.map D.int)), some (.int i), some (.int c), none, none] S ⟨fun _ S1 => Q .non S1, Q, fun _ _ => False, fun _ _ => False, fun x _ S1 => E x S1⟩ := fun c => by
    have gc := fmod_pos (a := c) (b := 2147483647) (by decide)
    have gi := fmod_pos (a := i) (b := 8) (by decide)
    walk_at "bl"
    refine powG (n := 4) (m := 18) (sm.of (n := 4) (by decide)) rfl (by decide) ?_
    walk_at "bl"
    refine Go.ifD (fun hk => ?_) fun hk => ?_
    · have hg : 0 ≤ (if c < 0 then -c else c) := by split <;> omega
      walk_at "bl"
      refine Go.mod (by decide) ?_
      walk_at "bl"
      refine Go.mul ((sm.of (n := 17) (by decide)).cmul (sm.of (n := 14) (by omega)) (by decide)) ?_
      walk_at "bl"
      refine powG (n := 40) (m := 5) (by unfold sm; omega) rfl (by decide) ?_
      walk_at "bl"
      refine Go.mod (by decide) ?_
      obtain ⟨p, p0, p1, ep⟩ := primes gi.1 gi.2
      walk_at "bl"
      refine Go.ixL ep ?_
      walk_at "bl"
      refine Go.mod (by omega) ?_
      walk_at "bl"
      refine Go.lstRK' rfl fun a ha => ?_
      have gp := fmod_pos (a := (c.fmod 2147483647 + 104729 * i + 7) ^ 5) p0
      exact k a _ ha ⟨_, _, sup_same, hg, gp.1, by omega⟩ Fr.sup
    · have hg : (0 : Int) ≤ 0 := by decide
      walk_at "bl"
      refine Go.mod (by decide) ?_
      walk_at "bl"
      refine Go.mul ((sm.of (n := 17) (by decide)).cmul (sm.of (n := 14) (by omega)) (by decide)) ?_
      walk_at "bl"
      refine powG (n := 40) (m := 5) (by unfold sm; omega) rfl (by decide) ?_
      walk_at "bl"
      refine Go.mod (by decide) ?_
      obtain ⟨p, p0, p1, ep⟩ := primes gi.1 gi.2
      walk_at "bl"
      refine Go.ixL ep ?_
      walk_at "bl"
      refine Go.mod (by omega) ?_
      walk_at "bl"
      refine Go.lstRK' rfl fun a ha => ?_
      have gp := fmod_pos (a := (c.fmod 2147483647 + 104729 * i + 7) ^ 5) p0
      exact k a _ ha ⟨_, _, sup_same, hg, gp.1, by omega⟩ Fr.sup
  walk_at "bl"
  refine Go.ifD (fun hk => ?_) fun hk => ?_
  · rw [List.length_map] at hk
    obtain ⟨j, rfl⟩ := Int.eq_ofNat_of_zero_le h
    walk_at "bl"
    refine Go.ixL (atI_nat (by rw [List.getElem?_map, List.getElem?_eq_getElem (show j < ns.length by omega)]; rfl)) ?_
    exact fin _
  · exact fin 0
/-! ### bent texts -/
theorem len_S {l : List Nat} {S : Sto} {Q : DK} (h : l.length ≤ 640) (k : Q (.int l.length) S) : bLen [.str (SX.S l)] S Q := by
  refine ⟨?_, ?_⟩
  · rw [SX.S_len]
    exact Nat.le_trans h (by decide)
  · rw [SX.S_len]
    exact k
theorem ix_S {l : List Nat} {t : Int} {S : Sto} {Q : DK} (h : l.length ≤ 640) (h0 : 0 ≤ t) (h1 : t < l.length) (k : ∀ c ∈ l, Q (.str (SX.S [c])) S) : fIx (.str (SX.S l)) (.int t) S Q := by
  refine ⟨?_, ?_⟩
  · rw [SX.S_len]
    exact Nat.le_trans h (by decide)
  · obtain ⟨j, rfl⟩ := Int.eq_ofNat_of_zero_le h0
    rw [show (SX.S l).cps.toList = l from by simp, atI_nat (List.getElem?_eq_getElem (show j < l.length by omega))]
    exact k _ (List.getElem_mem _)
theorem sl_any {l : List Nat} {lo hi : Option Int} {S : Sto} {Q : DK} (h : l.length ≤ 640) (k : Q (.str (cutS (SX.S l) lo hi)) S) : fSl (.str (SX.S l)) lo hi S Q := ⟨by
  rw [SX.S_len]
  exact Nat.le_trans h (by decide), k⟩
theorem cut_any (l : List Nat) (lo hi : Option Int) : cutS (SX.S l) lo hi = SX.S ((l.drop (HT.sIx l.length 0 lo)).take (HT.sIx l.length l.length hi - HT.sIx l.length 0 lo)) := by
  unfold cutS
  rw [show (SX.S l).cps.toList = l from by simp, SX.S_len]
theorem mulS_b {a : List Nat} {b : Int} {S : Sto} {Q : DK} (h : b = 0 ∨ b = 1) (k : ∀ m : List Nat, m = a ∨ m = [] → Q (.str (SX.S m)) S) : fMulS (.str (SX.S a)) (.int b) S Q := by
  rcases h with rfl | rfl
  · exact mulS_0 (k [] (.inr rfl))
  · exact mulS_1 (k a (.inl rfl))
def sgA : List Nat := [48, 49, 50, 51, 52, 53, 54, 55, 56, 57, 45, 47, 44, 43, 114, 32, 119, 46, 59]
def sgB : List Nat := [97, 98, 99, 100, 101, 102, 103, 104, 105, 106, 107, 108, 109, 110, 111, 112, 113, 115, 117, 118, 120, 121, 122, 82, 87, 33, 34, 35, 36, 38, 39, 40, 41, 42, 58, 60, 61, 62, 63, 64, 91, 93, 94, 95, 123, 124, 125, 126, 92]
def restB : TSd := sSeq (sAsg (dSl (vr 1) (oSome (dTwo (vr 5) (dB bInt (aCons (dTwo (vr 4) (cn (.int 0)) fNe) (aNil))) fAdd)) (oNone)) (.nm 8)) (sAsg (dTwo (dTwo (dSl (vr 1) (oNone) (oSome (vr 5))) (dTwo (vr 6) (dB bInt (aCons (dTwo (vr 4) (cn (.int 1)) fNe) (aNil))) fMulS) fAdd) (vr 8) fAdd) (.nm 1))
theorem rest_bent {a : Addr} {d2 d3 d7 d8 : Option D} {l x : List Nat} {way spot : Int} {S : Sto} {N : Nd} (hl : l.length ≤ 500) (hc : ∀ c ∈ l, c < 128) (hx : x.length ≤ 1) (hx2 : ∀ c ∈ x, c < 128) (s0 : 0 ≤ spot) (s1 : spot ≤ l.length) (k : ∀ m : List Nat, m.length ≤ l.length + 1 → (∀ c ∈ m, c < 128) → ∀ o8, N.nx [some (.ref a), some (.str (SX.S m)), d2, d3, some (.int way), some (.int spot), some (.str (SX.S x)), d7, o8] S) :
    restB [some (.ref a), some (.str (SX.S l)), d2, d3, some (.int way), some (.int spot), some (.str (SX.S x)), d7, d8] S N := by
  obtain ⟨s, rfl⟩ := Int.eq_ofNat_of_zero_le s0
  unfold restB
  obtain ⟨nx, rt, bk, ct, ex⟩ := N
  walk_at "bl"
  have hb : (if (!decide (way = 0)) = true then (1 : Int) else 0) = ((if way = 0 then 0 else 1 : Nat) : Int) := by
    by_cases h : way = 0
    · rw [decide_eq_true h, if_pos h]; rfl
    · rw [decide_eq_false h, if_neg h]; rfl
  rw [hb]
  refine sl_any (by omega) ?_
  rw [← Int.natCast_add, cut_any, HT.sIx_nat, HT.sIx_none]
  generalize hm : (l.drop (min (s + if way = 0 then 0 else 1) l.length)).take (l.length - min (s + if way = 0 then 0 else 1) l.length) = m2
  have l2 : m2.length ≤ l.length - s := by
    rw [← hm, List.length_take, List.length_drop]
    omega
  have c2 : ∀ c ∈ m2, c < 128 := fun c h => hc c (by rw [← hm] at h; exact List.mem_of_mem_drop (List.mem_of_mem_take h))
  walk_at "bl"
  refine sl_to (by omega) ?_
  walk_at "bl"
  refine mulS_b (by split <;> simp) fun y hy => ?_
  have ly : y.length ≤ 1 ∧ ∀ c ∈ y, c < 128 := by
    rcases hy with rfl | rfl
    · exact ⟨hx, hx2⟩
    · exact ⟨by simp, by simp⟩
  have lt : (l.take s).length ≤ s := by rw [List.length_take]; omega
  refine add_S (by rw [List.length_append]; omega) ?_
  walk_at "bl"
  refine add_S (by rw [List.length_append, List.length_append]; omega) ?_
  walk_at "bl"
  refine k _ (by rw [List.length_append, List.length_append]; omega) (fun c h => ?_) _
  rcases List.mem_append.mp h with h | h
  · rcases List.mem_append.mp h with h | h
    · exact hc c (List.mem_of_mem_take h)
    · exact ly.2 c h
  · exact c2 c h
theorem manies {d : Int} (h0 : 0 ≤ d) (h1 : d < 2) : ∃ x : Int, 0 < x ∧ x ≤ 68 ∧ sm 9000 x ∧ atI [D.int 19, .int 68] d = some (.int x) := by
  rcases (by omega : d = (0 : Nat) ∨ d = (1 : Nat)) with h | h <;> subst h <;> exact ⟨_, by decide, by decide, sm_k (by decide), atI_nat rfl⟩
theorem bent_spec {a : Addr} {l : List Nat} {S : Sto} {Q : DK} {E : EK} (hb : Bg S a) (hl : l.length ≤ 450) (hc : ∀ c ∈ l, c < 128) (k : ∀ m S', m.length ≤ l.length + 2 → (∀ c ∈ m, c < 128) → Bg S' a → Fr S S' a → Q (.str (SX.S m)) S') : m_l_bent [.ref a, .str (SX.S l)] S Q E := by
  refine e_l_bent ?_
  unfold t_l_bent
  walk_at "bl"
  refine add_S (a := sgA) (b := sgB) (by decide) ?_
  have sl : (sgA ++ sgB).length = 68 := by decide
  have sc : ∀ c ∈ sgA ++ sgB, c < 128 := by decide
  generalize sgA ++ sgB = sg at sl sc ⊢
  walk_at "bl"
  refine take_spec hb (by decide) (sm_k (by decide)) fun d S1 d0 d1 b1 f1 => ?_
  obtain ⟨n, rfl⟩ := Int.eq_ofNat_of_zero_le d0
  walk_at "bl"
  refine Go.r1' (n := 1 + n) (by omega) (by omega) ?_
  refine forD_rng (fun i e s => ∃ (m : List Nat) (o3 o4 o5 o6 o7 o8 : Option D), e = [some (.ref a), some (.str (SX.S m)), some (.str (SX.S sg)), o3, o4, o5, o6, o7, o8] ∧ m.length ≤ l.length + i ∧ (∀ c ∈ m, c < 128) ∧ Bg s a ∧ Fr S s a) ⟨l, _, _, _, _, _, _, rfl, Nat.le_refl _, hc, b1, f1⟩ ?_ ?_
  · rintro i e s hi ⟨m, o3, o4, o5, o6, o7, o8, rfl, hm, hmc, bs, fs⟩
    refine ⟨_, rfl, fun N' hnx _ _ _ _ => ?_⟩
    obtain ⟨nx, rt, bk, ct, ex⟩ := N'
    show sSeq _ (sSeq _ (sSeq _ restB)) [some (.ref a), some (.str (SX.S m)), some (.str (SX.S sg)), some (.int (0 + i)), o4, o5, o6, o7, o8] _ _
    have hml : m.length ≤ 500 := by omega
    walk_at "bl"
    refine take_spec bs (by decide) (sm_k (by decide)) fun way S2 w0 w1 b2 f2 => ?_
    walk_at "bl"
    refine len_S (by omega) ?_
    walk_at "bl"
    refine take_spec b2 (by omega) ((show sm 9 _ by unfold sm; omega).mono (by decide)) fun spot S3 s0 s1 b3 f3 => ?_
    walk_at "bl"
    refine len_S (by omega) ?_
    rw [sl]
    walk_at "bl"
    refine take_spec b3 (by decide) (sm_k (by decide)) fun d2 S4 d20 d21 b4 f4 => ?_
    obtain ⟨x, x0, x1, sx, ex2⟩ := manies d20 d21
    refine Go.ixL ex2 ?_
    walk_at "bl"
    refine take_spec b4 x0 sx fun t S5 t0 t1 b5 f5 => ?_
    refine ix_S (by omega) t0 (by omega) fun c hcs => ?_
    walk_at "bl"
    refine Go.ifD (fun h3 => ?_) fun h3 => ?_
    · walk_at "bl"
      refine len_S (by omega) ?_
      walk_at "bl"
      refine take_spec b5 (by omega) ((show sm 9 _ by unfold sm; omega).mono (by decide)) fun far S6 r0 r1 b6 f6 => ?_
      obtain ⟨r, rfl⟩ := Int.eq_ofNat_of_zero_le r0
      walk_at "bl"
      refine sl_any (by omega) ?_
      rw [show ((r : Nat) : Int) + 1 = ((r + 1 : Nat) : Int) from rfl, cut_any, HT.sIx_nat, HT.sIx_nat]
      walk_at "bl"
      refine rest_bent hml hmc (by rw [List.length_take]; omega) (fun c h => hmc c (List.mem_of_mem_drop (List.mem_of_mem_take h))) s0 (by omega) fun m2 lm cm o8 => ?_
      exact hnx _ _ ⟨m2, _, _, _, _, _, _, rfl, by omega, cm, b6, ((((fs.trans f2).trans f3).trans f4).trans f5).trans f6⟩
    · walk_at "bl"
      refine rest_bent hml hmc (x := [c]) (by simp) (fun z h => by rw [List.mem_singleton.mp h]; exact sc c hcs) s0 (by omega) fun m2 lm cm o8 => ?_
      exact hnx _ _ ⟨m2, _, _, _, _, _, _, rfl, by omega, cm, b5, (((fs.trans f2).trans f3).trans f4).trans f5⟩
  · rintro e s ⟨m, o3, o4, o5, o6, o7, o8, rfl, hm, hmc, bs, fs⟩
    walk_at "bl"
    exact k m s (by omega) hmc bs fs
local macro_rules | `(tactic| walk_at "blz") => `(tactic| (with_reducible (first | refine gmt ?_ | refine gtx ?_ | refine gsw ?_)))
/-! ### points, things -/
def ptB (p : P2) : Bool := decide (-1000 ≤ p.1 ∧ p.1 ≤ 1000) && decide (-1000 ≤ p.2 ∧ p.2 ≤ 1000)
theorem ptB_bd {p : P2} (h : ptB p = true) : Bd p := by
  obtain ⟨h1, h2⟩ := Bool.and_eq_true_iff.mp h
  have h1 := of_decide_eq_true h1
  have h2 := of_decide_eq_true h2
  exact ⟨by omega, by omega⟩
theorem ptB_of {p : P2} (h : Bd p) : ptB p = true := by
  obtain ⟨h1, h2⟩ := h
  unfold ptB
  rw [decide_eq_true (by omega), decide_eq_true (by omega)]
  rfl
theorem rng {x : Int} {o : Option D} {S : Sto} {Q : DK} {E : EK} (k : Q (.bl (decide (-1000 ≤ x ∧ x ≤ 1000))) S) : Go.negK k_MOST S (fun a S1 => vr 2 [o, none, some (.int x)] S1 (fun y S2 => fLe a y S2 fun d S3 => match d with
    | .bl true => cn k_MOST [o, none, some (.int x)] S3 (fun z S4 => fLe y z S4 Q) E
    | .bl false => Q (.bl false) S3
    | _ => False) E) := by
  show (match D.bl (decide (-1000 ≤ x)) with
    | .bl true => Q (.bl (decide (x ≤ 1000))) S
    | .bl false => Q (.bl false) S
    | _ => False)
  by_cases h1 : -1000 ≤ x
  · rw [decide_eq_true h1]
    rw [show decide (-1000 ≤ x ∧ x ≤ 1000) = decide (x ≤ 1000) by rw [decide_eq_decide]; exact ⟨(·.2), fun z => ⟨h1, z⟩⟩] at k
    exact k
  · rw [decide_eq_false h1]
    rw [decide_eq_false (fun z => h1 z.1)] at k
    exact k
theorem point_spec {p : P2} {S : Sto} {Q : DK} {E : EK} (k : Q (.bl (ptB p)) S) : m_is_point [pt p] S Q E := by
  refine e_is_point ?_
  unfold t_is_point
  walk_at "bl"
  refine are_whole_pr ?_
  walk_at "bl"
  refine rng ?_
  walk_at "bl"
  refine rng ?_
  walk_at "bl"
  simp only [List.all_cons, List.all_nil, id, Bool.and_true]
  exact k
theorem ne_pt2 {a b : P2} {S : Sto} {Q : DK} (k : Q (.bl (!decide (a = b))) S) : fNe (pt a) (pt b) S Q := ⟨ok_pt _, ok_pt _, by rw [pt_eq]; exact k⟩
/-! ### squares, bows -/
def Sqi (n : Int) : Prop := (isq n.toNat : Int) * isq n.toNat = n
instance (n : Int) : Decidable (Sqi n) := by unfold Sqi; infer_instance
theorem sq_all {n : Int} {S : Sto} {Q : DK} {E : EK} (h0 : 0 ≤ n) (hs : sm 25 n) (k : Q (.bl (decide (Sqi n))) S) : m_is_square [.int n] S Q E := is_square_spec h0 hs (by decide) k
def bowB (c p q : P2) : Bool := !decide (p = q) && decide (far c p = far c q) && decide (Sqi (far c p)) && decide (Sqi (far p q)) && decide (0 ≤ crs (dif p c) (dif q c))
def cordB (p q : P2) : Bool := !decide (p = q) && decide (Sqi (far p q))
theorem bow_all {c p q : P2} {S : Sto} {Q : DK} {E : EK} (hc : Bd c) (hp : Bd p) (hq : Bd q) (k : Q (.bl (bowB c p q)) S) : m_is_bow [pt c, pt p, pt q] S Q E := by
  refine e_is_bow ?_
  unfold t_is_bow
  unfold bowB at k
  obtain ⟨a1, a2⟩ := sm_dif hp hc
  obtain ⟨b1, b2⟩ := sm_dif hq hc
  walk_at "bl"
  refine eq_pt ?_
  walk_at "bl"
  refine Go.ifD (fun h1 => ?_) fun h1 => ?_
  · rw [decide_eq_true h1] at k
    walk_at "bl"
    exact k
  rw [decide_eq_false h1] at k
  walk_at "bl"
  refine far_square_spec hc hp ?_
  walk_at "bl"
  refine far_square_spec hc hq ?_
  walk_at "bl"
  refine Go.ifD (fun h2 => ?_) fun h2 => ?_
  case' refine_2 =>
    rw [decide_eq_false h2] at k
    walk_at "bl"
    exact k
  rw [decide_eq_true h2] at k
  walk_at "bl"
  refine far_square_spec hc hp ?_
  walk_at "bl"
  refine sq_all (far_nonneg ..) (sm_far hc hp) ?_
  walk_at "bl"
  refine Go.ifD (fun h3 => ?_) fun h3 => ?_
  case' refine_2 =>
    rw [decide_eq_false h3] at k
    walk_at "bl"
    exact k
  rw [decide_eq_true h3] at k
  walk_at "bl"
  refine far_square_spec hp hq ?_
  walk_at "bl"
  refine sq_all (far_nonneg ..) (sm_far hp hq) ?_
  walk_at "bl"
  refine Go.ifD (fun h4 => ?_) fun h4 => ?_
  case' refine_2 =>
    rw [decide_eq_false h4] at k
    walk_at "bl"
    exact k
  rw [decide_eq_true h4] at k
  walk_at "bl"
  refine step_spec ?_
  walk_at "bl"
  refine step_spec ?_
  walk_at "bl"
  refine cross_spec a1 a2 b1 b2 (by decide) ?_
  walk_at "bl"
  exact k
theorem sqi_of {n : Int} (h : Whole n) : Sqi n := by
  obtain ⟨r, r0, rfl⟩ := h
  unfold Sqi
  have e := isq_of (n := r * r) r0 (Int.le_refl _) (by grind)
  rw [← e]
def spotL : List Nat := [115, 112, 111, 116]
def cordL : List Nat := [99, 111, 114, 100]
def bowL : List Nat := [98, 111, 119]
def cnt (w : List Nat) : Option Int := if w = spotL then some 1 else if w = cordL then some 2 else if w = bowL then some 3 else none
theorem lookW_cnt (l : List Nat) : lookW kd_COUNTS (SX.S l) = cnt l := by
  show (if (Str.ofString "spot") = SX.S l then some 1 else if (Str.ofString "cord") = SX.S l then some 2 else if (Str.ofString "bow") = SX.S l then some 3 else none) = _
  have e1 : (Str.ofString "spot") = SX.S spotL := rfl
  have e2 : (Str.ofString "cord") = SX.S cordL := rfl
  have e3 : (Str.ofString "bow") = SX.S bowL := rfl
  unfold cnt
  rw [e1, e2, e3]
  have key : ∀ a : List Nat, (SX.S a = SX.S l) = (l = a) := fun a => propext ⟨fun z => (SX.S_inj z).symm, fun z => by rw [z]⟩
  simp only [key]
def thB (w : List Nat) (ps : List P2) : Bool := match ps with
  | [a] => decide (w = spotL) && ptB a
  | [a, b] => decide (w = cordL) && (ptB a && (ptB b && cordB a b))
  | [a, b, c] => decide (w = bowL) && (ptB a && (ptB b && (ptB c && bowB a b c)))
  | _ => false
theorem thB_cnt {w : List Nat} {ps : List P2} (h : thB w ps = true) : cnt w = some (ps.length : Int) := by
  match ps, h with
  | [a], h =>
    have := of_decide_eq_true (Bool.and_eq_true_iff.mp h).1
    subst this
    rfl
  | [a, b], h =>
    have := of_decide_eq_true (Bool.and_eq_true_iff.mp h).1
    subst this
    rfl
  | [a, b, c], h =>
    have := of_decide_eq_true (Bool.and_eq_true_iff.mp h).1
    subst this
    rfl
theorem thB_no {w : List Nat} {ps : List P2} (h : cnt w ≠ some (ps.length : Int)) : thB w ps = false := by
  cases hb : thB w ps with
  | false => rfl
  | true => exact absurd (thB_cnt hb) h
theorem thB_pt {w : List Nat} {ps : List P2} (h : thB w ps = true) : ∀ p ∈ ps, ptB p = true := by
  match ps, h with
  | [a], h =>
    intro p hp
    rw [List.mem_singleton.mp hp]
    exact (Bool.and_eq_true_iff.mp h).2
  | [a, b], h =>
    obtain ⟨_, h⟩ := Bool.and_eq_true_iff.mp h
    obtain ⟨h1, h⟩ := Bool.and_eq_true_iff.mp h
    obtain ⟨h2, h⟩ := Bool.and_eq_true_iff.mp h
    intro p hp
    simp only [List.mem_cons, List.not_mem_nil, or_false] at hp
    rcases hp with rfl | rfl <;> assumption
  | [a, b, c], h =>
    obtain ⟨_, h⟩ := Bool.and_eq_true_iff.mp h
    obtain ⟨h1, h⟩ := Bool.and_eq_true_iff.mp h
    obtain ⟨h2, h⟩ := Bool.and_eq_true_iff.mp h
    obtain ⟨h3, h⟩ := Bool.and_eq_true_iff.mp h
    intro p hp
    simp only [List.mem_cons, List.not_mem_nil, or_false] at hp
    rcases hp with rfl | rfl | rfl <;> assumption
abbrev thW (w : List Nat) (ps : List P2) : D := .tup (.str (SX.S w) :: ps.map pt)
theorem blsP : ∀ l : List P2, blsOf (l.map fun p => D.bl (ptB p)) = some (l.map ptB)
  | [] => rfl
  | c :: l => by
    show (blsOf (l.map fun p => D.bl (ptB p))).map (ptB c :: ·) = _
    rw [blsP l]
    rfl
theorem gInW {l : WL} {neg : Bool} {te : TEd} {env : Ev} {S : Sto} {Q : DK} {E : EK} (k : te env S (fun d S1 => match d with
  | .str z => Q (.bl (neg != (lookW l z).isSome)) S1
  | _ => False) E) : dInW l neg te env S Q E := k
theorem gIxW {l : WL} {te : TEd} {env : Ev} {S : Sto} {Q : DK} {E : EK} (k : te env S (fun d S1 => match d with
  | .str z => match lookW l z with
    | some i => Q (.int i) S1
    | none => False
  | _ => False) E) : dIxW l te env S Q E := k
theorem cnt_cases {w : List Nat} {c : Int} (h : cnt w = some c) : (w = spotL ∧ c = 1) ∨ (w = cordL ∧ c = 2) ∨ (w = bowL ∧ c = 3) := by
  unfold cnt at h
  split at h
  · rename_i e; cases h; exact .inl ⟨e, rfl⟩
  · split at h
    · rename_i e; cases h; exact .inr (.inl ⟨e, rfl⟩)
    · split at h
      · rename_i e; cases h; exact .inr (.inr ⟨e, rfl⟩)
      · cases h
theorem is_thing_spec {w : List Nat} {ps : List P2} {S : Sto} {Q : DK} {E : EK} (hs : Sm w) (hl : ps.length ≤ 641) (k : Q (.bl (thB w ps)) S) : m_is_thing [thW w ps] S Q E := by
  refine e_is_thing ?_
  unfold t_is_thing
  walk_at "bl"
  refine Go.isiK' (isi_tup _) ?_
  walk_at "bl"
  rw [List.length_cons, List.length_map]
  refine Go.ifD (fun h0 => ?_) fun h0 => ?_
  · walk_at "bl"
    rw [thB_no (fun z => by
      rcases cnt_cases z with ⟨_, e⟩ | ⟨_, e⟩ | ⟨_, e⟩ <;> omega)] at k
    exact k
  walk_at "bl"
  refine Go.isiK' (b := true) rfl ?_
  walk_at "bl"
  refine gInW ?_
  walk_at "bl"
  rw [lookW_cnt]
  cases hc : cnt w with
  | none =>
    rw [thB_no (by rw [hc]; simp)] at k
    walk_at "bl"
    refine Go.ifBT rfl ?_
    walk_at "bl"
    exact k
  | some c =>
    walk_at "bl"
    refine Go.ifBF rfl ?_
    walk_at "bl"
    refine gIxW ?_
    walk_at "bl"
    dsimp only
    rw [lookW_cnt, hc]
    dsimp only
    rw [List.length_map]
    walk_at "bl"
    refine Go.ifD (fun h1 => ?_) fun h1 => ?_
    case' refine_2 =>
      rw [thB_no (by rw [hc]; intro z; exact h1 (Option.some.inj z).symm)] at k
      walk_at "bl"
      exact k
    walk_at "bl"
    refine Go.lc' (by rw [List.length_map]; exact Nat.lt_of_le_of_lt hl (by decide)) ?_
    walk_at "bl"
    refine lcGo_map (g := pt) (fun p => D.bl (ptB p)) (fun p hp R q => ?_) ?_
    · show dCall m_is_point 1 0 (fun ds _ => ds) (aCons (vr 4) aNil) aNil [some (thW w ps), some (.str (SX.S w)), some (.lst (ps.map pt)), none, some (pt p)] _ _ _
      walk_at "bl"
      exact point_spec q
    walk_at "bl"
    refine Go.allB (blsP ps) ?_
    walk_at "bl"
    refine Go.ifB (fun h2 => ?_) fun h2 => ?_
    rotate_left
    · walk_at "bl"
      have e : thB w ps = false := by
        cases hb : thB w ps with
        | false => rfl
        | true =>
          have := thB_pt hb
          rw [List.all_map] at h2
          have h3 : ps.all (id ∘ ptB) = true := List.all_eq_true.mpr this
          rw [h3] at h2
          cases h2
      rw [e] at k
      exact k
    have hp : ∀ p ∈ ps, ptB p = true := by
      rw [List.all_map] at h2
      exact List.all_eq_true.mp h2
    walk_at "bl"
    have c4 : ∀ c ∈ spotL, c < 128 := by decide
    have c5 : ∀ c ∈ cordL, c < 128 := by decide
    refine Go.eqS (ok_S hs.2) (ok_S c4) (eq_S w spotL) ?_
    walk_at "bl"
    rcases cnt_cases hc with ⟨e1, e2⟩ | ⟨e1, e2⟩ | ⟨e1, e2⟩
    · subst e1
      refine Go.ifDT rfl ?_
      walk_at "bl"
      match ps, h1, hp, k with
      | [a], _, hp, k =>
        have : thB spotL [a] = true := by
          show (decide (spotL = spotL) && ptB a) = true
          rw [hp a (by simp)]
          rfl
        rw [this] at k
        exact k
      | [], h1, _, _ => exact absurd h1 (by rw [e2]; simp)
      | a :: b :: r, h1, _, _ => exact absurd h1 (by rw [e2]; simp only [List.length_cons]; omega)
    · subst e1
      refine Go.ifDF (by decide) ?_
      walk_at "bl"
      match ps, h1, hp, k with
      | [a, b], _, hp, k =>
        have pa := hp a (by simp)
        have pb := hp b (by simp)
        have : thB cordL [a, b] = cordB a b := by
          show (decide (cordL = cordL) && (ptB a && (ptB b && cordB a b))) = _
          rw [pa, pb]
          rfl
        rw [this] at k
        unfold cordB at k
        rw [show ([a, b].map pt) = [pt a, pt b] from rfl]
        walk_at "bl"
        refine ne_pt2 ?_
        walk_at "bl"
        refine Go.ifD (fun h3 => ?_) fun h3 => ?_
        · rw [decide_eq_true h3] at k
          walk_at "bl"
          exact k
        · rw [decide_eq_false h3] at k
          walk_at "bl"
          refine far_square_spec (ptB_bd pa) (ptB_bd pb) ?_
          walk_at "bl"
          refine sq_all (far_nonneg ..) (sm_far (ptB_bd pa) (ptB_bd pb)) ?_
          exact k
      | [], h1, _, _ => exact absurd h1 (by rw [e2]; simp)
      | [a], h1, _, _ => exact absurd h1 (by rw [e2]; simp)
      | a :: b :: c :: r, h1, _, _ => exact absurd h1 (by rw [e2]; simp only [List.length_cons]; omega)
    · subst e1
      refine Go.ifDF (by decide) ?_
      walk_at "bl"
      match ps, h1, hp, k with
      | [a, b, c], _, hp, k =>
        have pa := hp a (by simp)
        have pb := hp b (by simp)
        have pc := hp c (by simp)
        have : thB bowL [a, b, c] = bowB a b c := by
          show (decide (bowL = bowL) && (ptB a && (ptB b && (ptB c && bowB a b c)))) = _
          rw [pa, pb, pc]
          rfl
        rw [this] at k
        rw [show ([a, b, c].map pt) = [pt a, pt b, pt c] from rfl]
        walk_at "bl"
        exact bow_all (ptB_bd pa) (ptB_bd pb) (ptB_bd pc) k
      | [], h1, _, _ => exact absurd h1 (by rw [e2]; simp)
      | [a], h1, _, _ => exact absurd h1 (by rw [e2]; simp)
      | [a, b], h1, _, _ => exact absurd h1 (by rw [e2]; simp)
      | a :: b :: c :: d :: r, h1, _, _ => exact absurd h1 (by rw [e2]; simp only [List.length_cons]; omega)
local macro_rules | `(tactic| walk_at "blz") => `(tactic| (with_reducible (first | refine gmt ?_ | refine gtx ?_ | refine gsw ?_)))
/-! ### things as texts, plain -/
def ptOf (ps : List (List Nat)) : Option P2 := match ps with
  | [a, b] => match wholeIn a, wholeIn b with
    | some x, some y => some (x, y)
    | _, _ => none
  | _ => none
def pointIn (l : List Nat) : Option P2 := ptOf (TL.spl [44] 0 [] l)
def pointsIn : List (List Nat) → Option (List P2)
  | [] => some []
  | l :: r => match pointIn l, pointsIn r with
    | some p, some ps => some (p :: ps)
    | _, _ => none
def thingOf (w : List Nat) (ls : List (List Nat)) : Option (List Nat × List P2) := match pointsIn ls with
  | some ps => if thB w ps = true then some (w, ps) else none
  | none => none
def thingParts (ws : List (List Nat)) : Option (List Nat × List P2) := match ws with
  | w :: ls => thingOf w ls
  | [] => none
def thingIn (l : List Nat) : Option (List Nat × List P2) := thingParts (TL.spl [32] 0 [] l)
def oPt : Option P2 → D
  | some p => pt p
  | none => .non
def oTh : Option (List Nat × List P2) → D
  | some (w, ps) => thW w ps
  | none => .non
theorem oPt_non (o : Option P2) : eqD (oPt o) .non = o.isNone := by cases o <;> rfl
theorem okN_oPt (o : Option P2) : okN 1 (oPt o) := by
  cases o with
  | none => exact okN_non
  | some p => exact okN_pr _ _
theorem any_non (ls : List (List Nat)) : ((ls.map fun l => oPt (pointIn l)).any fun z => eqD z .non) = ls.any fun l => (pointIn l).isNone := by
  rw [List.any_map]
  congr 1
  funext l
  exact oPt_non _
theorem pts_none : ∀ {ls : List (List Nat)}, (ls.any fun l => (pointIn l).isNone) = true → pointsIn ls = none
  | [], h => by cases h
  | l :: r, h => by
    unfold pointsIn
    cases hp : pointIn l with
    | none => rfl
    | some p =>
      rw [List.any_cons, hp] at h
      have h2 : (r.any fun l => (pointIn l).isNone) = true := h
      rw [pts_none h2]
theorem pts_some : ∀ {ls : List (List Nat)}, (ls.any fun l => (pointIn l).isNone) = false → ∃ ps, pointsIn ls = some ps ∧ (ls.map fun l => oPt (pointIn l)) = ps.map pt ∧ ps.length = ls.length
  | [], _ => ⟨[], rfl, rfl, rfl⟩
  | l :: r, h => by
    rw [List.any_cons] at h
    obtain ⟨h1, h2⟩ := Bool.or_eq_false_iff.mp h
    obtain ⟨ps, e1, e2, e3⟩ := pts_some h2
    cases hp : pointIn l with
    | none => rw [hp] at h1; cases h1
    | some p =>
      refine ⟨p :: ps, by unfold pointsIn; rw [hp, e1], ?_, by rw [List.length_cons, List.length_cons, e3]⟩
      rw [List.map_cons, List.map_cons, e2, hp]
      rfl
theorem pts_len : ∀ {ls : List (List Nat)} {ps : List P2}, pointsIn ls = some ps → ps.length = ls.length
  | [], _, h => by cases h; rfl
  | l :: r, ps, h => by
    unfold pointsIn at h
    split at h
    · rename_i p qs e1 e2
      cases h
      rw [List.length_cons, List.length_cons, pts_len e2]
    · cases h
def ptText (p : P2) : List Nat := placeText (p.1, 1) (p.2, 1)
def thText (w : List Nat) (ps : List P2) : List Nat := TL.joinL [32] (w :: ps.map ptText)
theorem point_back (p : P2) : pointIn (ptText p) = some p := by
  have e0 : ∀ i : Int, fracText (i, 1) = intL i := fun i => if_pos rfl
  have e : TL.spl [44] 0 [] (ptText p) = [intL p.1, intL p.2] := by
    unfold ptText placeText
    rw [e0, e0]
    exact TL.spl_join (S := []) (by simp) fun x hx => by
      have : ∀ i : Int, 44 ∉ intL i := fun i z => by
        have := intL_sign z
        omega
      rcases List.mem_cons.mp hx with rfl | hx
      · exact this _
      · rw [List.mem_singleton.mp hx]
        exact this _
  unfold pointIn ptOf
  rw [e]
  dsimp only
  rw [whole_intL, whole_intL]
theorem points_back : ∀ ps : List P2, pointsIn (ps.map ptText) = some ps
  | [] => rfl
  | p :: ps => by
    rw [List.map_cons]
    unfold pointsIn
    rw [point_back, points_back ps]
theorem pt_sign {p : P2} {c : Nat} (h : c ∈ ptText p) : 44 ≤ c ∧ c ≤ 57 := by
  have e : ptText p = fracText (p.1, 1) ++ ([44] ++ fracText (p.2, 1)) := rfl
  rw [e] at h
  rcases List.mem_append.mp h with h | h
  · have := fracText_sign h; omega
  · rcases List.mem_append.mp h with h | h
    · rw [List.mem_singleton.mp h]; decide
    · have := fracText_sign h; omega
theorem thing_back {w : List Nat} {ps : List P2} (hw : 32 ∉ w) (h : thB w ps = true) : thingIn (thText w ps) = some (w, ps) := by
  have e : TL.spl [32] 0 [] (thText w ps) = w :: ps.map ptText := TL.spl_join (S := []) (by simp) fun x hx => by
    rcases List.mem_cons.mp hx with rfl | hx
    · exact hw
    · obtain ⟨p, _, rfl⟩ := List.mem_map.mp hx
      intro z
      have := pt_sign z
      omega
  unfold thingIn
  rw [e]
  show thingOf w (ps.map ptText) = _
  unfold thingOf
  rw [points_back]
  dsimp only
  rw [if_pos h]
/-! ### points read -/
def tailQ : TSd := sRet (eIf (tAndD (tbl (dTwo (dB bLen (aCons (vr 1) (aNil))) (cn (.int 2)) fEq)) (tbl (dTwo (cn .non) (vr 1) (fIn true)))) (vr 1) (cn .non))
theorem tail_q {d : D} {ps : List (List Nat)} {S : Sto} {Q : DK} {E : EK} (k : Q (oPt (ptOf ps)) S) : tailQ [some d, some (.tup (ps.map fun l => oD (wholeIn l))), none, none] S ⟨fun _ S1 => Q .non S1, Q, fun _ _ => False, fun _ _ => False, fun x _ S1 => E x S1⟩ := by
  unfold tailQ
  walk_at "bl"
  rw [List.length_map]
  refine Go.ifD (fun h => ?_) fun h => ?_
  · match ps, h, k with
    | [a, b], _, k =>
      rw [show ([a, b].map fun l => oD (wholeIn l)) = [oD (wholeIn a), oD (wholeIn b)] from rfl]
      cases hw : wholeIn a with
      | none =>
        have e : ptOf [a, b] = none := by unfold ptOf; dsimp only; rw [hw]
        rw [e] at k
        have okb : okD (.tup [.non, oD (wholeIn b)]) := by cases wholeIn b <;> exact ⟨rfl, rfl⟩
        rw [show oD none = D.non from rfl]
        walk_at "bl"
        refine ⟨⟨rfl, rfl⟩, okb, ?_⟩
        walk_at "bl"
        refine Go.ifBF rfl ?_
        walk_at "bl"
        exact k
      | some x =>
        cases hv : wholeIn b with
        | none =>
          have e : ptOf [a, b] = none := by unfold ptOf; dsimp only; rw [hw, hv]
          rw [e] at k
          rw [show oD none = D.non from rfl, show oD (some x) = D.int x from rfl]
          walk_at "bl"
          refine ⟨⟨rfl, rfl⟩, ⟨rfl, rfl⟩, ?_⟩
          walk_at "bl"
          refine Go.ifBF rfl ?_
          walk_at "bl"
          exact k
        | some y =>
          have e : ptOf [a, b] = some (x, y) := by unfold ptOf; dsimp only; rw [hw, hv]
          rw [e] at k
          rw [show oD (some y) = D.int y from rfl, show oD (some x) = D.int x from rfl]
          walk_at "bl"
          refine ⟨⟨rfl, rfl⟩, ⟨rfl, rfl⟩, ?_⟩
          walk_at "bl"
          refine Go.ifBT rfl ?_
          walk_at "bl"
          exact k
    | [], h, _ => cases h
    | [a], h, _ => cases h
    | a :: b :: c :: r, h, _ => exact absurd h (by simp only [List.length_cons]; omega)
  · walk_at "bl"
    have e : ptOf ps = none := by
      match ps, h with
      | [], _ => rfl
      | [a], _ => rfl
      | [a, b], h => exact absurd rfl h
      | a :: b :: c :: r, _ => rfl
    rw [e] at k
    exact k
theorem point_in_spec {l : List Nat} {S : Sto} {Q : DK} {E : EK} (hs : Sm l) (k : Q (oPt (pointIn l)) S) : m_point_in [.str (SX.S l)] S Q E := by
  refine e_point_in ?_
  unfold t_point_in
  show sSeq _ tailQ _ _ _
  walk_at "bl"
  refine split_k (c := 44) (by decide) hs.1 ?_
  obtain ⟨hsm, hlen⟩ := spl_sm (c := 44) _ (Nat.le_refl _) hs
  unfold pointIn at k
  generalize TL.spl [44] 0 [] l = ps at hsm hlen k ⊢
  have hl := hs.1
  walk_at "bl"
  refine Go.lc' (by rw [List.length_map]; exact Nat.lt_of_le_of_lt (show ps.length ≤ 641 by omega) (by decide)) ?_
  walk_at "bl"
  refine lcGo_map (g := fun l => D.str (SX.S l)) (fun l => oD (wholeIn l)) (fun p hp R q => ?_) ?_
  · show dCall m_whole_in 1 0 (fun ds _ => ds) (aCons (vr 3) aNil) aNil [some (.str (SX.S l)), none, none, some (.str (SX.S p))] _ _ _
    walk_at "bl"
    exact whole_in_spec (hsm p hp) q
  walk_at "bl"
  exact tail_q k
theorem addT {a b : List D} {S : Sto} {Q : DK} (h : a.length + b.length ≤ 1000) (k : Q (.lst (a ++ b)) S) : fCat (.lst a) (.lst b) S Q := ⟨Nat.le_trans h (by decide), k⟩
theorem thing_in_spec {w : List Nat} {ls : List (List Nat)} {S : Sto} {Q : DK} {E : EK} (hw : Sm w) (hs : ∀ l ∈ ls, Sm l) (hl : ls.length ≤ 641) (k1 : thingOf w ls = none → Q .non S) (k2 : ∀ ps, pointsIn ls = some ps → Q (thW w ps) S) : m_thing_in [.lst (.str (SX.S w) :: ls.map fun l => D.str (SX.S l))] S Q E := by
  refine e_thing_in ?_
  unfold t_thing_in
  have no : (∀ ps, pointsIn ls = some ps → thB w ps = false) → Q .non S := fun h => k1 (by
    unfold thingOf
    cases hp : pointsIn ls with
    | none => rfl
    | some ps =>
      dsimp only
      rw [h ps hp, if_neg (by decide)])
  walk_at "bl"
  refine gInW ?_
  walk_at "bl"
  rw [lookW_cnt]
  cases hc : cnt w with
  | none =>
    walk_at "bl"
    refine Go.ifBT rfl ?_
    walk_at "bl"
    exact no fun ps _ => thB_no (by rw [hc]; simp)
  | some c =>
    walk_at "bl"
    refine Go.ifBF rfl ?_
    walk_at "bl"
    refine gIxW ?_
    walk_at "bl"
    dsimp only
    rw [lookW_cnt, hc]
    dsimp only
    rw [List.length_map]
    walk_at "bl"
    refine Go.ifD (fun h1 => ?_) fun h1 => ?_
    case' refine_2 =>
      walk_at "bl"
      exact no fun ps hp => thB_no (by rw [hc, pts_len hp]; intro z; exact h1 (Option.some.inj z).symm)
    walk_at "bl"
    refine Go.lc' (by rw [List.length_map]; exact Nat.lt_of_le_of_lt hl (by decide)) ?_
    walk_at "bl"
    refine lcGo_map (g := fun l => D.str (SX.S l)) (fun l => oPt (pointIn l)) (fun p hp R q => ?_) ?_
    · show dCall m_point_in 1 0 (fun ds _ => ds) (aCons (vr 5) aNil) aNil [some (.lst (.str (SX.S w) :: ls.map fun l => D.str (SX.S l))), some (.str (SX.S w)), some (.lst (ls.map fun l => D.str (SX.S l))), none, none, some (.str (SX.S p))] _ _ _
      walk_at "bl"
      exact point_in_spec (hs p hp) q
    walk_at "bl"
    refine ⟨⟨rfl, rfl⟩, (okN_lst (okNs_all (n := 1) fun d hd => by
      obtain ⟨l, _, rfl⟩ := List.mem_map.mp hd
      exact okN_oPt _)).ok (by decide), ?_⟩
    rw [any_non]
    cases ha : ls.any fun l => (pointIn l).isNone with
    | true =>
      walk_at "bl"
      refine Go.ifBT rfl ?_
      walk_at "bl"
      exact no fun ps hp => by rw [pts_none ha] at hp; cases hp
    | false =>
      obtain ⟨ps, e1, e2, e3⟩ := pts_some ha
      rw [e2]
      walk_at "bl"
      refine Go.ifBF rfl ?_
      walk_at "bl"
      refine addT (by rw [List.length_map, e3]; show 1 + ls.length ≤ 1000; omega) ?_
      walk_at "bl"
      exact k2 ps e1
local macro_rules | `(tactic| walk_at "blz") => `(tactic| (with_reducible (first | refine gmt ?_ | refine gtx ?_ | refine gsw ?_)))
/-! ### things read -/
theorem read_cases {l : List Nat} {S : Sto} {Q : DK} {E : EK} (hs : Sm l) (k1 : thingIn l = none → E ⟨"NoText", []⟩ S) (k2 : ∀ w ps, thingIn l = some (w, ps) → Q (thW w ps) S) : m_read_thing [.str (SX.S l)] S Q E := by
  refine e_read_thing ?_
  unfold t_read_thing
  walk_at "bl"
  refine Go.isiK' (b := true) rfl ?_
  walk_at "bl"
  refine split_k (c := 32) (by decide) hs.1 ?_
  obtain ⟨hsm, hlen⟩ := spl_sm (c := 32) _ (Nat.le_refl _) hs
  have hne := spl_ne (c := 32) l
  unfold thingIn at k1 k2
  have hl := hs.1
  generalize TL.spl [32] 0 [] l = ws at hsm hlen hne k1 k2 ⊢
  walk_at "bl"
  cases ws with
  | nil => exact absurd rfl hne
  | cons w ls =>
    have hls : ls.length ≤ 641 := by rw [List.length_cons] at hlen; omega
    have k1 : thingOf w ls = none → E ⟨"NoText", []⟩ S := k1
    refine thing_in_spec (hsm w (by simp)) (fun p hp => hsm p (List.mem_cons_of_mem _ hp)) hls (fun h => ?_) fun ps hp => ?_
    · walk_at "bl"
      refine Go.ifBT rfl ?_
      walk_at "bl"
      exact k1 h
    · walk_at "bl"
      refine Go.ifBF rfl ?_
      walk_at "bl"
      refine is_thing_spec (hsm w (by simp)) (by rw [pts_len hp]; exact hls) ?_
      walk_at "bl"
      cases hb : thB w ps with
      | true =>
        refine Go.ifBT rfl ?_
        walk_at "bl"
        refine k2 w ps ?_
        show thingOf w ls = _
        unfold thingOf
        rw [hp]
        dsimp only
        rw [if_pos hb]
      | false =>
        refine Go.ifBF rfl ?_
        walk_at "bl"
        refine k1 ?_
        unfold thingOf
        rw [hp]
        dsimp only
        rw [if_neg (by rw [hb]; decide)]
theorem read_other {d : D} {S : Sto} {Q : DK} {E : EK} (h : isiD "str" d = some false) (k : E ⟨"NoText", []⟩ S) : m_read_thing [d] S Q E := by
  refine e_read_thing ?_
  unfold t_read_thing
  walk_at "bl"
  refine Go.isiK' h ?_
  walk_at "bl"
  refine Go.ifBT rfl ?_
  walk_at "bl"
  exact k
def oR : Option (List Nat × List P2) → D
  | some (w, ps) => thW w ps
  | none => .str "none"
theorem l_read_spec {l : List Nat} {S : Sto} {Q : DK} {E : EK} (hs : Sm l) (k : Q (oR (thingIn l)) S) : m_l_read [.obj FnA.rr, .str (SX.S l)] S Q E := by
  cases h : thingIn l with
  | none =>
    rw [h] at k
    exact read_refused (fun Q E k => read_cases hs (fun _ => k) fun w ps z => by rw [h] at z; cases z) k
  | some x =>
    obtain ⟨w, ps⟩ := x
    rw [h] at k
    refine e_l_read ?_
    unfold t_l_read
    walk_at "bl"
    refine gcs rfl ?_
    walk_at "bl"
    refine ⟨rfl, rfl, read_cases hs (fun z => by rw [h] at z; cases z) fun w2 ps2 z => ?_⟩
    rw [h] at z
    cases z
    exact k
theorem l_read_other {d : D} {S : Sto} {Q : DK} {E : EK} (h : isiD "str" d = some false) (k : Q (.str "none") S) : m_l_read [.obj FnA.rr, d] S Q E := read_refused (fun Q E => read_other h) k
/-! ### things shown -/
theorem pq_bd {p : P2} (h : Bd p) : Pq (p.1, 1) ∧ Pq (p.2, 1) := by
  have e : (1001 : Nat) ≤ 10 ^ 100 := by decide +kernel
  have e1 : (1 : Int).natAbs < 10 ^ 100 := by decide +kernel
  obtain ⟨h1, h2⟩ := h
  exact ⟨⟨show p.1.natAbs < 10 ^ 100 by omega, e1⟩, show p.2.natAbs < 10 ^ 100 by omega, e1⟩
theorem ptText_len {p : P2} (h : Bd p) : (ptText p).length ≤ 11 := by
  have e0 : ∀ i : Int, fracText (i, 1) = intL i := fun i => if_pos rfl
  have e : ptText p = fracText (p.1, 1) ++ ([44] ++ fracText (p.2, 1)) := rfl
  obtain ⟨h1, h2⟩ := h
  have l1 := intL_len (i := p.1) (k := 4) (by decide) (by omega)
  have l2 := intL_len (i := p.2) (k := 4) (by decide) (by omega)
  rw [e, e0, e0, List.length_append, List.length_append, List.length_singleton]
  omega
theorem joinL_len {c : Nat} : ∀ {ls : List (List Nat)}, ls ≠ [] → (TL.joinL [c] ls).length + 1 = (ls.map (·.length)).sum + ls.length
  | [], h => absurd rfl h
  | [p], _ => by
    show p.length + 1 = ([p.length]).sum + 1
    simp
  | p :: q :: r, _ => by
    have ih := joinL_len (c := c) (ls := q :: r) (by simp)
    show (p ++ ([c] ++ TL.joinL [c] (q :: r))).length + 1 = _
    rw [List.length_append, List.length_append, List.length_singleton, List.map_cons, List.sum_cons, List.length_cons]
    omega
theorem joinL_sign {c : Nat} : ∀ {ls : List (List Nat)} {x : Nat}, x ∈ TL.joinL [c] ls → x = c ∨ ∃ l ∈ ls, x ∈ l
  | [], x, h => by cases h
  | [p], x, h => .inr ⟨p, by simp, h⟩
  | p :: q :: r, x, h => by
    have h : x ∈ p ++ ([c] ++ TL.joinL [c] (q :: r)) := h
    rcases List.mem_append.mp h with h | h
    · exact .inr ⟨p, by simp, h⟩
    · rcases List.mem_append.mp h with h | h
      · exact .inl (List.mem_singleton.mp h)
      · rcases joinL_sign h with h | ⟨l, h1, h2⟩
        · exact .inl h
        · exact .inr ⟨l, List.mem_cons_of_mem _ h1, h2⟩
theorem sum_le {m : Nat} : ∀ {ls : List (List Nat)}, (∀ l ∈ ls, l.length ≤ m) → (ls.map (·.length)).sum ≤ m * ls.length
  | [], _ => by simp
  | l :: r, h => by
    have := sum_le (ls := r) fun x hx => h x (List.mem_cons_of_mem _ hx)
    have := h l (by simp)
    rw [List.map_cons, List.sum_cons, List.length_cons, Nat.mul_succ]
    omega
theorem thText_sm {w : List Nat} {ps : List P2} (hw : w.length ≤ 10) (hc : ∀ c ∈ w, c < 128) (hp : ∀ p ∈ ps, Bd p) (hl : ps.length ≤ 3) : (thText w ps).length ≤ 60 ∧ ∀ c ∈ thText w ps, c < 128 := by
  refine ⟨?_, fun c h => ?_⟩
  · have e := joinL_len (c := 32) (ls := w :: ps.map ptText) (by simp)
    have s := sum_le (m := 11) (ls := ps.map ptText) fun l h => by
      obtain ⟨p, h1, rfl⟩ := List.mem_map.mp h
      exact ptText_len (hp p h1)
    rw [List.length_map] at s
    rw [List.map_cons, List.sum_cons, List.length_cons, List.length_map] at e
    unfold thText
    omega
  · rcases joinL_sign h with h | ⟨l, h1, h2⟩
    · omega
    · rcases List.mem_cons.mp h1 with rfl | h1
      · exact hc c h2
      · obtain ⟨p, _, rfl⟩ := List.mem_map.mp h1
        have := pt_sign h2
        omega
theorem words_ok {w : List Nat} {ps : List P2} (hw : w.length ≤ 10) (hp : ∀ p ∈ ps, Bd p) (hl : ps.length ≤ 3) : ((w :: ps.map ptText).map (·.length)).sum + (w :: ps.map ptText).length ≤ 100000 := by
  have s := sum_le (m := 11) (ls := ps.map ptText) fun l h => by
    obtain ⟨p, h1, rfl⟩ := List.mem_map.mp h
    exact ptText_len (hp p h1)
  rw [List.length_map] at s
  rw [List.map_cons, List.sum_cons, List.length_cons, List.length_map]
  omega
theorem show_thing_spec {w : List Nat} {ps : List P2} {S : Sto} {Q : DK} {E : EK} (hw : w.length ≤ 10) (hp : ∀ p ∈ ps, Bd p) (hl : ps.length ≤ 3) (k : Q (.str (SX.S (thText w ps))) S) : m_show_thing [thW w ps] S Q E := by
  refine e_show_thing ?_
  unfold t_show_thing
  walk_at "bl"
  refine Go.lc' (by rw [List.length_map]; exact Nat.lt_of_le_of_lt hl (by decide)) ?_
  walk_at "bl"
  refine lcGo_map (g := pt) (fun p => D.str (SX.S (ptText p))) (fun p hpp R q => ?_) ?_
  · show dCall m_show_place 1 0 (fun ds _ => ds) (aCons (vr 4) aNil) aNil [some (thW w ps), some (.str (SX.S w)), some (.lst (ps.map pt)), none, some (pt p)] _ _ _
    walk_at "bl"
    obtain ⟨q1, q2⟩ := pq_bd (hp p hpp)
    exact show_spot_spec q1 q2 q
  walk_at "bl"
  refine addT (by rw [List.length_map]; show 1 + ps.length ≤ 1000; omega) ?_
  have e : ([D.str (SX.S w)] ++ ps.map fun p => D.str (SX.S (ptText p))) = (w :: ps.map ptText).map fun l => D.str (SX.S l) := by
    rw [List.map_cons, List.map_map]
    rfl
  rw [e]
  exact join_k (c := 32) (words_ok hw hp hl) k
theorem l_thing_text_spec {w : List Nat} {ps : List P2} {S : Sto} {Q : DK} {E : EK} (hw : w.length ≤ 10) (hp : ∀ p ∈ ps, Bd p) (hl : ps.length ≤ 3) (k : Q (.str (SX.S (thText w ps))) S) : m_l_thing_text [thW w ps] S Q E := by
  refine e_l_thing_text ?_
  unfold t_l_thing_text
  walk_at "bl"
  refine Go.lc' (by rw [List.length_map]; exact Nat.lt_of_le_of_lt hl (by decide)) ?_
  walk_at "bl"
  refine lcGo_map (g := pt) (fun p => D.str (SX.S (ptText p))) (fun p hpp R q => ?_) ?_
  · show dCall m_l_place_text 1 0 (fun ds _ => ds) (aCons (vr 2) aNil) aNil [some (thW w ps), none, some (pt p)] _ _ _
    walk_at "bl"
    obtain ⟨q1, q2⟩ := pq_bd (hp p hpp)
    exact lspot_text_spec q1 q2 q
  walk_at "bl"
  refine addT (by rw [List.length_map]; show 1 + ps.length ≤ 1000; omega) ?_
  have e : ([D.str (SX.S w)] ++ ps.map fun p => D.str (SX.S (ptText p))) = (w :: ps.map ptText).map fun l => D.str (SX.S l) := by
    rw [List.map_cons, List.map_map]
    rfl
  rw [e]
  exact join_k (c := 32) (words_ok hw hp hl) k
local macro_rules | `(tactic| walk_at "blz") => `(tactic| (with_reducible (first | refine gmt ?_ | refine gtx ?_ | refine gsw ?_)))
/-! ### the law's reading -/
theorem gSlR {t : TEd} {lo hi : TOd} {env : Ev} {S : Sto} {Q : DK} {E : EK} (k : t env S (fun x S1 => lo env S1 (fun l S2 => hi env S2 (fun u S3 => fSlR x l u S3 Q) E) E) E) : dSlR t lo hi env S Q E := k
theorem pts_cons {l : List Nat} {r : List (List Nat)} {p : P2} (h : pointIn l = some p) : pointsIn (l :: r) = (pointsIn r).map (p :: ·) := by
  show (match pointIn l, pointsIn r with
    | some p, some ps => some (p :: ps)
    | _, _ => none) = _
  rw [h]
  cases pointsIn r <;> rfl
theorem any_oD (qs : List (List Nat)) : ((qs.map fun l => oD (wholeIn l)).any fun z => eqD z .non) = qs.any fun l => (wholeIn l).isNone := by
  rw [List.any_map]
  congr 1
  funext l
  show eqD (oD (wholeIn l)) .non = _
  cases wholeIn l <;> rfl
theorem okN_oD (o : Option Int) : okN 1 (oD o) := by
  cases o with
  | none => exact okN_non
  | some p => exact okN_int _
theorem bit_of {qs : List (List Nat)} (h : qs.length = 2) (h2 : (qs.any fun l => (wholeIn l).isNone) = false) : ∃ p : P2, ptOf qs = some p ∧ (qs.map fun l => oD (wholeIn l)) = [.int p.1, .int p.2] := by
  match qs, h, h2 with
  | [a, b], _, h2 =>
    cases hw : wholeIn a with
    | none => simp [hw] at h2
    | some x =>
      cases hv : wholeIn b with
      | none => simp [hw, hv] at h2
      | some y =>
        refine ⟨(x, y), by unfold ptOf; dsimp only; rw [hw, hv], ?_⟩
        show [oD (wholeIn a), oD (wholeIn b)] = _
        rw [hw, hv]
        rfl
theorem bit_no {qs : List (List Nat)} (h : qs.length ≠ 2 ∨ (qs.any fun l => (wholeIn l).isNone) = true) : ptOf qs = none := by
  match qs, h with
  | [], _ => rfl
  | [a], _ => rfl
  | [a, b], h =>
    rcases h with h | h
    · exact absurd rfl h
    · unfold ptOf
      dsimp only
      cases hw : wholeIn a with
      | none => rfl
      | some x =>
        cases hv : wholeIn b with
        | none => rfl
        | some y => simp [hw, hv] at h
  | a :: b :: c :: r, _ => rfl
theorem l_thing_in_spec {l : List Nat} {S : Sto} {Q : DK} {E : EK} (hs : Sm l) (k : ∀ S', Q (oTh (thingIn l)) S') : m_l_thing_in [.str (SX.S l)] S Q E := by
  refine e_l_thing_in ?_
  unfold t_l_thing_in
  walk_at "bl"
  refine split_k (c := 32) (by decide) hs.1 ?_
  obtain ⟨hsm, hlen⟩ := spl_sm (c := 32) _ (Nat.le_refl _) hs
  have hne := spl_ne (c := 32) l
  unfold thingIn at k
  have hl := hs.1
  generalize TL.spl [32] 0 [] l = ws at hsm hlen hne k ⊢
  cases ws with
  | nil => exact absurd rfl hne
  | cons w ls =>
    have hls : ls.length ≤ 641 := by rw [List.length_cons] at hlen; omega
    have k : ∀ S', Q (oTh (thingOf w ls)) S' := k
    rw [List.map_cons]
    walk_at "bl"
    refine gSlR ?_
    walk_at "bl"
    intro f hf
    have ec : Bl.cutD (D.str (SX.S w) :: ls.map fun l => D.str (SX.S l)) none (some 1) = [.str (SX.S w)] := by
      unfold Bl.cutD
      rw [show (1 : Int) = ((1 : Nat) : Int) from rfl, HT.sIx_nat, HT.sIx_none, List.length_cons, List.drop_zero, Nat.sub_zero]
      rw [show min 1 ((ls.map fun l => D.str (SX.S l)).length + 1) = 1 by omega]
      rfl
    rw [ec]
    walk_at "bl"
    have ed : Bl.cutD (D.str (SX.S w) :: ls.map fun l => D.str (SX.S l)) (some 1) none = ls.map fun l => D.str (SX.S l) := by
      unfold Bl.cutD
      rw [show (1 : Int) = ((1 : Nat) : Int) from rfl, HT.sIx_nat, HT.sIx_none, List.length_cons]
      rw [show min 1 ((ls.map fun l => D.str (SX.S l)).length + 1) = 1 by omega, List.drop_succ_cons, List.drop_zero, Nat.add_sub_cancel, List.take_length]
    refine forD_map (fun xs e s => ∃ (o3 o4 o5 o6 : Option D) (ps : List P2), e = [some (.str (SX.S l)), some (.lst (D.str (SX.S w) :: ls.map fun l => D.str (SX.S l))), some (.ref f), o3, o4, o5, o6] ∧ s f = some (.str (SX.S w) :: ps.map pt) ∧ pointsIn ls = (pointsIn xs).map (fun qs => ps ++ qs) ∧ (∀ l ∈ xs, Sm l) ∧ ps.length + xs.length ≤ 641) ?_ ?_ ls ⟨_, _, _, _, [], rfl, sup_same, ?_, fun p hp => hsm p (List.mem_cons_of_mem _ hp), by simpa using hls⟩
    · rintro x xs e s ⟨o3, o4, o5, o6, ps, rfl, hf1, hp1, hx, hlx⟩
      refine ⟨_, rfl, fun N' hnx _ hrt _ _ => ?_⟩
      obtain ⟨nx, rt, bk, ct, ex⟩ := N'
      have hrt : rt = Q := hrt
      subst hrt
      show sSeq _ _ [some (.str (SX.S l)), some (.lst (D.str (SX.S w) :: ls.map fun l => D.str (SX.S l))), some (.ref f), some (.str (SX.S x)), o4, o5, o6] _ _
      have sx := hx x (List.mem_cons_self ..)
      generalize hE : (some (D.lst (D.str (SX.S w) :: ls.map fun l => D.str (SX.S l)))) = tx at hnx ⊢
      have bad : pointIn x = none → ∀ S', rt .non S' := fun hb S' => by
        have e1 : pointsIn (x :: xs) = none := by unfold pointsIn; rw [hb]
        rw [e1] at hp1
        have := k S'
        unfold thingOf at this
        rw [show pointsIn ls = none from hp1] at this
        exact this
      have good : ∀ p, pointIn x = some p → pointsIn ls = (pointsIn xs).map (fun qs => (ps ++ [p]) ++ qs) := fun p hb => by
        rw [hp1]
        rw [pts_cons hb]
        cases pointsIn xs with
        | none => rfl
        | some qs =>
          show some (ps ++ p :: qs) = some (ps ++ [p] ++ qs)
          simp
      walk_at "bl"
      refine split_k (c := 44) (by decide) sx.1 ?_
      obtain ⟨hsm2, hlen2⟩ := spl_sm (c := 44) _ (Nat.le_refl _) sx
      unfold pointIn at bad good
      have hlx1 := sx.1
      generalize TL.spl [44] 0 [] x = qs at hsm2 hlen2 bad good ⊢
      walk_at "bl"
      refine Go.lc' (by rw [List.length_map]; exact Nat.lt_of_le_of_lt (show qs.length ≤ 641 by omega) (by decide)) ?_
      walk_at "bl"
      refine lcGo_map (g := fun l => D.str (SX.S l)) (fun l => oD (wholeIn l)) (fun p hp R q => ?_) ?_
      · show dCall m_l_whole_in 1 0 (fun ds _ => ds) (aCons (vr 6) aNil) aNil [some (.str (SX.S l)), tx, some (.ref f), some (.str (SX.S x)), o4, none, some (.str (SX.S p))] _ _ _
        walk_at "bl"
        exact lwhole_in_spec (hsm2 p hp) q
      walk_at "bl"
      rw [List.length_map]
      refine Go.ifD (fun h1 => ?_) fun h1 => ?_
      case' refine_2 =>
        walk_at "bl"
        refine Go.frz rfl hf1 ?_
        walk_at "bl"
        exact bad (bit_no (.inl fun z => h1 (by rw [z]; rfl))) _
      walk_at "bl"
      refine ⟨⟨rfl, rfl⟩, (okN_tup (okNs_all (n := 1) fun d hd => by
        obtain ⟨l, _, rfl⟩ := List.mem_map.mp hd
        exact okN_oD _)).ok (by decide), ?_⟩
      rw [any_oD]
      cases ha : qs.any fun l => (wholeIn l).isNone with
      | true =>
        walk_at "bl"
        refine Go.ifBT rfl ?_
        walk_at "bl"
        refine Go.frz rfl hf1 ?_
        walk_at "bl"
        exact bad (bit_no (.inr ha)) _
      | false =>
        obtain ⟨p, e1, e2⟩ := bit_of (qs := qs) (by omega) ha
        rw [e2]
        walk_at "bl"
        refine Go.ifBF rfl ?_
        walk_at "bl"
        refine Go.appG rfl hf1 ?_
        walk_at "bl"
        refine Go.appK hf1 (by rw [List.length_cons, List.length_map]; rw [List.length_cons] at hlx; omega) ?_
        walk_at "bl"
        refine hnx _ _ ⟨_, _, _, _, ps ++ [p], rfl, ?_, good p e1, fun l hl => hx l (List.mem_cons_of_mem _ hl), by rw [List.length_append, List.length_singleton]; rw [List.length_cons] at hlx; omega⟩
        rw [sup_same, List.map_append]
        rfl
    · rintro e s ⟨o3, o4, o5, o6, ps, rfl, hf1, hp1, _, hlx⟩
      have hp2 : pointsIn ls = some ps := by
        rw [hp1]
        show some (ps ++ []) = _
        rw [List.append_nil]
      have k2 : ∀ S', Q (oTh (if thB w ps = true then some (w, ps) else none)) S' := fun S' => by
        have := k S'
        unfold thingOf at this
        rw [hp2] at this
        exact this
      show sFrz 2 _ [some (.str (SX.S l)), some (.lst (D.str (SX.S w) :: ls.map fun l => D.str (SX.S l))), some (.ref f), o3, o4, o5, o6] s _
      refine Go.frz rfl hf1 ?_
      generalize hE : (some (D.lst (D.str (SX.S w) :: ls.map fun l => D.str (SX.S l)))) = tx
      show sRet _ [some (.str (SX.S l)), tx, some (.lst (.str (SX.S w) :: ps.map pt)), o3, o4, o5, o6] _ _
      walk_at "bl"
      have hlp : ps.length ≤ 641 := by omega
      refine is_thing_spec (hsm w (by simp)) hlp ?_
      walk_at "bl"
      refine Go.ifB (fun hb => ?_) fun hb => ?_
      · walk_at "bl"
        have := k2 (sdel s f)
        rw [if_pos hb] at this
        exact this
      · walk_at "bl"
        have := k2 (sdel s f)
        rw [if_neg (by rw [hb]; decide)] at this
        exact this
    · show pointsIn ls = (pointsIn ls).map fun qs => [] ++ qs
      cases pointsIn ls <;> rfl
local macro_rules | `(tactic| walk_at "blz") => `(tactic| (with_reducible (first | refine gmt ?_ | refine gtx ?_ | refine gsw ?_)))
/-! ### the drawn things -/
theorem turned_spec {p : P2} {n : Nat} {S : Sto} {Q : DK} {E : EK} (hn : n < 4) (k : Q (pt (rot n p)) S) : m_l_turned [pt p, .int n] S Q E := by
  refine e_l_turned ?_
  unfold t_l_turned
  walk_at "bl"
  refine Go.mod (by decide) ?_
  rw [show (n : Int).fmod 4 = (n : Int) from by rw [Int.fmod_eq_emod_of_nonneg _ (by decide)]; omega]
  walk_at "bl"
  refine Go.r1' rfl (by omega) ?_
  refine forD_rng (fun j e s => ∃ o, e = [some (pt p), some (.int n), some (.int (rot j p).1), some (.int (rot j p).2), o] ∧ s = S) ⟨_, rfl, rfl⟩ ?_ ?_
  · rintro j e s hj ⟨o, rfl, rfl⟩
    refine ⟨_, rfl, fun N' hnx _ _ _ _ => ?_⟩
    show sPar _ _ [some (pt p), some (.int n), some (.int (rot j p).1), some (.int (rot j p).2), some (.int (0 + j))] _ _
    walk_at "bl"
    exact hnx _ _ ⟨_, rfl, rfl⟩
  · rintro e s ⟨o, rfl, rfl⟩
    walk_at "bl"
    exact k
theorem addL {ds es : List D} {S : Sto} {Q : DK} (h : Nat.ble (ds ++ es).length 1000 = true) (k : Q (.lst (ds ++ es)) S) : fCat (.lst ds) (.lst es) S Q := ⟨by have := Nat.le_of_ble_eq_true h; rw [List.length_append] at this; exact Nat.le_trans this (by decide), k⟩
theorem appG {ta : TAd} {env : Ev} {S : Sto} {Q : DK} {E : EK} {r : Addr} {i : Nat} {xs : List D} (e : env[i]? = some (some (.ref r))) (h : S r = some xs) (k : ta env S (fun ds S2 => gApp r ds S2 Q) E) : dLm gApp (vr i) ta env S Q E := by
  unfold dLm
  refine vr_go e ?_
  exact ⟨by rw [h]; rfl, k⟩
theorem appK {r : Addr} {d : D} {xs : List D} {S : Sto} {Q : DK} (h : S r = some xs) (hl : Nat.ble xs.length 1000 = true) (k : Q .non (sup S r (xs ++ [d]))) : gApp r [d] S Q := by
  unfold gApp
  dsimp only
  rw [h]
  exact ⟨Nat.lt_of_le_of_lt (Nat.le_of_ble_eq_true hl) (by decide), k⟩
theorem lstG {ds : List D} {S : Sto} {Q : DK} (k : Q (.lst ds) S) : bLst [.tup ds] S Q := k
theorem longs {d : Int} (h0 : 0 ≤ d) (h1 : d < 8) : ∃ x y r : Int, (x * x + y * y = r * r ∧ 0 ≤ x ∧ x ≤ 15 ∧ 0 ≤ y ∧ y ≤ 15 ∧ 0 < r) ∧ atI [pt (1, 0), pt (2, 0), pt (3, 4), pt (4, 3), pt (5, 12), pt (12, 5), pt (8, 15), pt (9, 0)] d = some (pt (x, y)) := by
  rcases (by omega : d = (0 : Nat) ∨ d = (1 : Nat) ∨ d = (2 : Nat) ∨ d = (3 : Nat) ∨ d = (4 : Nat) ∨ d = (5 : Nat) ∨ d = (6 : Nat) ∨ d = (7 : Nat)) with h | h | h | h | h | h | h | h <;> subst h
  · exact ⟨1, 0, 1, by decide, atI_nat rfl⟩
  · exact ⟨2, 0, 2, by decide, atI_nat rfl⟩
  · exact ⟨3, 4, 5, by decide, atI_nat rfl⟩
  · exact ⟨4, 3, 5, by decide, atI_nat rfl⟩
  · exact ⟨5, 12, 13, by decide, atI_nat rfl⟩
  · exact ⟨12, 5, 13, by decide, atI_nat rfl⟩
  · exact ⟨8, 15, 17, by decide, atI_nat rfl⟩
  · exact ⟨9, 0, 9, by decide, atI_nat rfl⟩
structure Arc (u v : P2) (r d : Int) : Prop where
  e1 : dot u u = r * r
  e2 : dot v v = r * r
  e3 : dot u u - 2 * dot u v + dot v v = d * d
  r0 : 0 ≤ r
  d0 : 0 < d
  tn : 0 ≤ crs u v
  u1 : PIn 25 u
  v1 : PIn 25 v
instance (u v : P2) (r d : Int) : Decidable (Arc u v r d) :=
  decidable_of_iff (dot u u = r * r ∧ dot v v = r * r ∧ dot u u - 2 * dot u v + dot v v = d * d ∧ 0 ≤ r ∧ 0 < d ∧ 0 ≤ crs u v ∧ (u.1.natAbs ≤ 25 ∧ u.2.natAbs ≤ 25) ∧ (v.1.natAbs ≤ 25 ∧ v.2.natAbs ≤ 25))
    ⟨fun ⟨a, b, c, d, e, f, g, h⟩ => ⟨a, b, c, d, e, f, g, h⟩, fun ⟨a, b, c, d, e, f, g, h⟩ => ⟨a, b, c, d, e, f, g, h⟩⟩
abbrev pp (u v : P2) : D := .tup [pt u, pt v]
theorem arcs {d : Int} (h0 : 0 ≤ d) (h1 : d < 9) : ∃ (u v : P2) (r c : Int), Arc u v r c ∧ atI [pp (1, 0) (-1, 0), pp (3, 4) (-3, 4), pp (4, 3) (-4, 3), pp (5, 12) (-5, 12), pp (12, 5) (-12, 5), pp (25, 0) (7, 24), pp (25, 0) (-7, 24), pp (3, 4) (-3, -4), pp (24, 7) (-24, 7)] d = some (pp u v) := by
  rcases (by omega : d = (0 : Nat) ∨ d = (1 : Nat) ∨ d = (2 : Nat) ∨ d = (3 : Nat) ∨ d = (4 : Nat) ∨ d = (5 : Nat) ∨ d = (6 : Nat) ∨ d = (7 : Nat) ∨ d = (8 : Nat)) with h | h | h | h | h | h | h | h | h <;> subst h
  · exact ⟨(1, 0), (-1, 0), 1, 2, by decide, atI_nat rfl⟩
  · exact ⟨(3, 4), (-3, 4), 5, 6, by decide, atI_nat rfl⟩
  · exact ⟨(4, 3), (-4, 3), 5, 8, by decide, atI_nat rfl⟩
  · exact ⟨(5, 12), (-5, 12), 13, 10, by decide, atI_nat rfl⟩
  · exact ⟨(12, 5), (-12, 5), 13, 24, by decide, atI_nat rfl⟩
  · exact ⟨(25, 0), (7, 24), 25, 30, by decide, atI_nat rfl⟩
  · exact ⟨(25, 0), (-7, 24), 25, 40, by decide, atI_nat rfl⟩
  · exact ⟨(3, 4), (-3, -4), 5, 10, by decide, atI_nat rfl⟩
  · exact ⟨(24, 7), (-24, 7), 25, 48, by decide, atI_nat rfl⟩
def WayOk (way : Int) : Th → Prop
  | .spot _ => way < 2
  | .cord _ _ => ¬ way < 2 ∧ way < 5
  | .bow _ _ _ => ¬ way < 5
theorem smul_sm {s x : Int} (hs0 : 0 < s) (hs3 : s ≤ 3) {m : Nat} (h : x.natAbs ≤ m) : (x * s).natAbs ≤ m * 3 := by
  rw [Int.natAbs_mul]
  exact Nat.mul_le_mul h (by omega)
theorem thing_spec {a : Addr} {wide way : Int} {S : Sto} {Q : DK} {E : EK} (hb : Bg S a) (hm0 : 0 < wide) (hm1 : wide ≤ 900) (k : ∀ t S', GoodTh t → TIn (wide.toNat + 75) t → WayOk way t → Bg S' a → Q (thD t) S') : m_l_thing [.ref a, .int wide, .int way] S Q E := by
  refine e_l_thing ?_
  unfold t_l_thing
  have sw : sm 10 wide := by unfold sm; omega
  walk_at "bl"
  refine take_spec hb (by omega) (sm_k (by decide)) fun sz S1 s0 s1 b1 _ => ?_
  walk_at "bl"
  refine take_spec b1 (by omega) (sm_k (by decide)) fun qr S2 q0 q1 b2 _ => ?_
  obtain ⟨n, rfl⟩ : ∃ n : Nat, qr = n := ⟨qr.toNat, by omega⟩
  walk_at "bl"
  refine Go.mul ((sm.of (n := 2) (by decide)).cmul sw (by decide)) ?_
  walk_at "bl"
  refine take_spec b2 (by omega) ((show sm 12 _ by unfold sm; omega).mono (by decide)) fun x0 S3 x1 x2 b3 _ => ?_
  walk_at "bl"
  refine Go.mul ((sm.of (n := 2) (by decide)).cmul sw (by decide)) ?_
  walk_at "bl"
  refine take_spec b3 (by omega) ((show sm 12 _ by unfold sm; omega).mono (by decide)) fun y0 S4 y1 y2 b4 _ => ?_
  generalize hat : (x0 - wide, y0 - wide) = at'
  have pb : PIn wide.toNat at' := by rw [← hat]; exact ⟨by show (x0 - wide).natAbs ≤ _; omega, by show (y0 - wide).natAbs ≤ _; omega⟩
  have pb' : PIn (wide.toNat + 75) at' := ⟨Nat.le_trans pb.1 (by omega), Nat.le_trans pb.2 (by omega)⟩
  have hbase : Bd at' := pb.bd (by omega)
  have ex : x0 - wide = at'.1 := by rw [← hat]
  have ey : y0 - wide = at'.2 := by rw [← hat]
  walk_at "bl"
  rw [ex, ey]
  generalize hs : 1 + sz = s at *
  have hs0 : 0 < s := by omega
  have hs3 : s ≤ 3 := by omega
  have ss : sm 4 s := by unfold sm; omega
  refine addL rfl ?_
  walk_at "bl"
  refine Go.ifD (fun hk => ?_) fun hk => ?_
  · walk_at "bl"
    exact k (.spot at') S4 hbase pb' hk b4
  walk_at "bl"
  refine take_spec b4 (by omega) (sm_k (by decide)) fun d S5 d0 d1 b5 _ => ?_
  obtain ⟨x, y, r, ⟨he, hx, hx1, hy, hy1, hr⟩, ed⟩ := longs d0 d1
  refine Go.ixL ed ?_
  have far_in : ∀ u : P2, PIn 25 u → PIn (wide.toNat + 75) (plus2 at' (rot n (u.1 * s, u.2 * s))) := fun u hu =>
    plus_in pb (rot_bd (u := (u.1 * s, u.2 * s)) (m := 75) (smul_sm hs0 hs3 hu.1) (smul_sm hs0 hs3 hu.2) n)
  walk_at "bl"
  by_cases hw : way < 5
  · rw [decide_eq_false (show ¬ 4 < way by omega)]
    refine Go.ifBF rfl ?_
    walk_at "bl"
    refine Go.lstRK' rfl fun c hc => ?_
    have b6 : ∀ ds : List D, Bg (sup S5 c ds) a := fun ds => by
      obtain ⟨c1, m1, e, z⟩ := b5
      refine ⟨c1, m1, ?_, z⟩
      rw [sup_ne (fun z => by rw [z, hc] at e; cases e)]
      exact e
    walk_at "bl"
    refine Go.mul ((show sm 5 x by unfold sm; omega).cmul ss (by decide)) ?_
    walk_at "bl"
    refine Go.mul ((show sm 5 y by unfold sm; omega).cmul ss (by decide)) ?_
    walk_at "bl"
    refine turned_spec (p := (x * s, y * s)) (by omega) ?_
    walk_at "bl"
    refine appG rfl sup_same ?_
    walk_at "bl"
    refine appK sup_same rfl ?_
    walk_at "bl"
    refine Go.ifD (fun _ => ?_) fun z => absurd hw z
    walk_at "bl"
    refine Go.ixR sup_same atI_0 ?_
    walk_at "bl"
    have hb2 := far_in (x, y) ⟨by show x.natAbs ≤ 25; omega, by show y.natAbs ≤ 25; omega⟩
    have hu : dot (x * s, y * s) (x * s, y * s) = (r * s) * (r * s) := by
      unfold dot
      dsimp only
      grind
    have er : 0 < r * s := Int.mul_pos hr hs0
    have bg : Bg (sup (sup S5 c []) c [pt (plus2 at' (rot n (x * s, y * s)))]) a := by
      obtain ⟨c1, m1, e, z⟩ := b5
      refine ⟨c1, m1, ?_, z⟩
      have ne : a ≠ c := fun z => by rw [z, hc] at e; cases e
      rw [sup_ne ne, sup_ne ne]
      exact e
    refine k (.cord at' (plus2 at' (rot n (x * s, y * s)))) _ ⟨hbase, hb2.bd (by omega), fun z => ?_, ⟨r * s, by omega, by rw [far_plus0, rot_dot, hu]⟩⟩ ⟨pb', hb2⟩ ⟨hk, hw⟩ bg
    have e := far_plus0 at' (rot n (x * s, y * s))
    rw [rot_dot, hu, ← z, far_self] at e
    have := Int.mul_pos er er
    omega
  · rw [decide_eq_true (show 4 < way by omega)]
    refine Go.ifBT rfl ?_
    walk_at "bl"
    refine take_spec b5 (by omega) (sm_k (by decide)) fun d' S6 d0' d1' b6 _ => ?_
    obtain ⟨u, v, R, C, ar, ed'⟩ := arcs d0' d1'
    refine Go.ixL ed' ?_
    walk_at "bl"
    refine lstG ?_
    walk_at "bl"
    refine Go.lstRK' rfl fun c hc => ?_
    have uin := ar.u1
    have vin := ar.v1
    have s5 : ∀ {i : Int}, i.natAbs ≤ 25 → sm 5 i := fun h => by unfold sm; omega
    walk_at "bl"
    refine Go.mul ((s5 uin.1).cmul ss (by decide)) ?_
    walk_at "bl"
    refine Go.mul ((s5 uin.2).cmul ss (by decide)) ?_
    walk_at "bl"
    refine turned_spec (p := (u.1 * s, u.2 * s)) (by omega) ?_
    walk_at "bl"
    refine appG rfl sup_same ?_
    walk_at "bl"
    refine appK sup_same rfl ?_
    walk_at "bl"
    refine Go.mul ((s5 vin.1).cmul ss (by decide)) ?_
    walk_at "bl"
    refine Go.mul ((s5 vin.2).cmul ss (by decide)) ?_
    walk_at "bl"
    refine turned_spec (p := (v.1 * s, v.2 * s)) (by omega) ?_
    walk_at "bl"
    refine appG rfl sup_same ?_
    walk_at "bl"
    refine appK sup_same rfl ?_
    walk_at "bl"
    refine Go.ifD (fun z => absurd z hw) fun _ => ?_
    walk_at "bl"
    refine Go.ixR sup_same atI_0 ?_
    walk_at "bl"
    refine Go.ixR sup_same atI_1 ?_
    walk_at "bl"
    have hb2 := far_in u uin
    have hb3 := far_in v vin
    have bg : ∀ l1 l2 l3, Bg (sup (sup (sup S6 c l1) c l2) c l3) a := fun l1 l2 l3 => by
      obtain ⟨c1, m1, e, z⟩ := b6
      refine ⟨c1, m1, ?_, z⟩
      have ne : a ≠ c := fun z => by rw [z, hc] at e; cases e
      rw [sup_ne ne, sup_ne ne, sup_ne ne]
      exact e
    have e1 : dot (u.1 * s, u.2 * s) (u.1 * s, u.2 * s) = (R * s) * (R * s) := by
      have := ar.e1
      unfold dot at *
      dsimp only
      grind
    have e2 : dot (v.1 * s, v.2 * s) (v.1 * s, v.2 * s) = (R * s) * (R * s) := by
      have := ar.e2
      unfold dot at *
      dsimp only
      grind
    have e3 : dot (u.1 * s, u.2 * s) (u.1 * s, u.2 * s) - 2 * dot (u.1 * s, u.2 * s) (v.1 * s, v.2 * s) + dot (v.1 * s, v.2 * s) (v.1 * s, v.2 * s) = (C * s) * (C * s) := by
      have := ar.e3
      unfold dot at *
      dsimp only
      grind
    have e4 : 0 ≤ crs (u.1 * s, u.2 * s) (v.1 * s, v.2 * s) := by
      have h := Int.mul_nonneg ar.tn (Int.mul_nonneg (show 0 ≤ s by omega) (show 0 ≤ s by omega))
      have : crs (u.1 * s, u.2 * s) (v.1 * s, v.2 * s) = crs u v * (s * s) := by
        unfold crs
        dsimp only
        grind
      omega
    exact k (.bow at' (plus2 at' (rot n (u.1 * s, u.2 * s))) (plus2 at' (rot n (v.1 * s, v.2 * s)))) _ ⟨hbase, hb2.bd (by omega), hb3.bd (by omega), .mk' e1 e2 (Int.mul_nonneg ar.r0 (by omega)) e3 (Int.mul_pos ar.d0 hs0) e4⟩ ⟨pb', hb2, hb3⟩ hw (bg _ _ _)
/-! ### words taken out, twice, exchanged -/
theorem spl_sum {c : Nat} : ∀ (n : Nat) {l : List Nat}, l.length ≤ n → ((TL.spl [c] 0 [] l).map (·.length)).sum + (TL.spl [c] 0 [] l).length = l.length + 1
  | n, l, hn => by
    cases h : TL.par [c] [] l with
    | none =>
      rw [spl_none h]
      simp
    | some z =>
      obtain ⟨p, q⟩ := z
      obtain ⟨m, e1, e2, e3⟩ := par_has h
      rw [List.nil_append] at e1
      subst e1
      have hl : l.length = p.length + (q.length + 1) := by rw [e2, List.length_append, List.length_cons]
      rw [spl_some h, List.map_cons, List.sum_cons, List.length_cons]
      cases n with
      | zero => omega
      | succ n =>
        have := spl_sum (c := c) n (l := q) (by omega)
        omega
theorem map_erase {α β : Type} (f : α → β) : ∀ (l : List α) (j : Nat), (l.map f).eraseIdx j = (l.eraseIdx j).map f
  | [], _ => by simp
  | _ :: _, 0 => rfl
  | x :: l, j + 1 => by
    show f x :: (l.map f).eraseIdx j = f x :: (l.eraseIdx j).map f
    rw [map_erase f l j]
theorem sum_erase : ∀ (l : List (List Nat)) (j : Nat), ((l.eraseIdx j).map (·.length)).sum ≤ (l.map (·.length)).sum
  | [], _ => by simp
  | x :: l, 0 => by
    show (l.map (·.length)).sum ≤ _
    rw [List.map_cons, List.sum_cons]
    omega
  | x :: l, j + 1 => by
    show ((x :: l.eraseIdx j).map (·.length)).sum ≤ _
    rw [List.map_cons, List.sum_cons, List.map_cons, List.sum_cons]
    have := sum_erase l j
    omega
theorem sum_set : ∀ (l : List (List Nat)) (j : Nat) (x : List Nat), ((l.set j x).map (·.length)).sum ≤ (l.map (·.length)).sum + x.length
  | [], _, _ => by simp
  | y :: l, 0, x => by
    show ((x :: l).map (·.length)).sum ≤ _
    rw [List.map_cons, List.sum_cons, List.map_cons, List.sum_cons]
    omega
  | y :: l, j + 1, x => by
    show ((y :: l.set j x).map (·.length)).sum ≤ _
    rw [List.map_cons, List.sum_cons, List.map_cons, List.sum_cons]
    have := sum_set l j x
    omega
theorem sum_mem : ∀ {l : List (List Nat)} {x : List Nat}, x ∈ l → x.length ≤ (l.map (·.length)).sum
  | y :: l, x, h => by
    rw [List.map_cons, List.sum_cons]
    rcases List.mem_cons.mp h with rfl | h
    · omega
    · have := sum_mem h
      omega
theorem splitR_k {a : List Nat} {c : Nat} {S : Sto} {Q : DK} (hc : c < 256) (hl : a.length ≤ 640) (k : ∀ p, S p = none → Q (.ref p) (sup S p ((TL.spl [c] 0 [] a).map fun l => D.str (SX.S l)))) : fSplitR (.str (SX.S a)) (.str (SX.S [c])) S Q := by
  refine ⟨rfl, ?_, ?_⟩
  · rw [SX.S_len]
    exact Nat.le_trans (show a.length + 2 ≤ 642 by omega) (by decide)
  · rw [SX.split_S (List.cons_ne_nil _ _) (by simp [hc]), List.map_map]
    exact k
theorem lmG {g : GM} {ta : TAd} {env : Ev} {S : Sto} {Q : DK} {E : EK} {r : Addr} {i : Nat} {xs : List D} (e : env[i]? = some (some (.ref r))) (h : S r = some xs) (k : ta env S (fun ds S2 => g r ds S2 Q) E) : dLm g (vr i) ta env S Q E := by
  unfold dLm
  refine vr_go e ?_
  exact ⟨by rw [h]; rfl, k⟩
theorem popK {r : Addr} {xs : List D} {j : Nat} {d : D} {S : Sto} {Q : DK} (h : S r = some xs) (hj : j < 2 ^ 62) (e : xs[j]? = some d) (k : Q d (sup S r (xs.eraseIdx j))) : gPop r [.int j] S Q := by
  unfold gPop
  dsimp only
  rw [h]
  refine ⟨by omega, by omega, ?_⟩
  rw [Int.toNat_natCast, e]
  exact k
theorem insK {r : Addr} {xs : List D} {j : Nat} {d : D} {S : Sto} {Q : DK} (h : S r = some xs) (hj : j < 2 ^ 62) (hl : xs.length ≤ 1000) (k : Q .non (sup S r (xs.take j ++ [d] ++ xs.drop j))) : gIns r [.int j, d] S Q := by
  unfold gIns
  dsimp only
  rw [h]
  refine ⟨Nat.lt_of_le_of_lt hl (by decide), by omega, by omega, ?_⟩
  rw [Int.toNat_natCast]
  exact k
theorem setK {r : Addr} {xs : List D} {j : Nat} {d : D} {S : Sto} {Q : Sto → Prop} (h : S r = some xs) (hj : j < xs.length) (k : Q (sup S r (xs.set j d))) : setD (.ref r) (.int j) d S Q := by
  unfold setD
  dsimp only
  rw [h]
  dsimp only
  have e : ixN xs.length (j : Int) = some j := by
    unfold ixN
    first
      | (rw [if_neg (by omega), if_pos (by omega), Int.toNat_natCast])
      | (simp; omega)
  rw [e]
  exact k
def tailW : TSd := sFrz 2 (sRet (dMt fJoin (cn (.str " ")) (vr 2)))
theorem tail_w {o0 o1 o3 o4 o5 o6 : Option D} {p : Addr} {zs : List (List Nat)} {S : Sto} {Q : DK} {E : EK} (hp : S p = some (zs.map fun l => D.str (SX.S l))) (hl : (zs.map (·.length)).sum + zs.length ≤ 10000) (k : Q (.str (SX.S (TL.joinL [32] zs))) (sdel S p)) : tailW [o0, o1, some (.ref p), o3, o4, o5, o6] S ⟨fun _ S1 => Q .non S1, Q, fun _ _ => False, fun _ _ => False, fun x _ S1 => E x S1⟩ := by
  unfold tailW
  refine Go.frz rfl hp ?_
  show sRet _ [o0, o1, some (.lst (zs.map fun l => D.str (SX.S l))), o3, o4, o5, o6] _ _
  walk_at "bl"
  exact join_k (c := 32) (by omega) k
theorem by_words_spec {a : Addr} {l : List Nat} {S : Sto} {Q : DK} {E : EK} (hb : Bg S a) (hl : l.length ≤ 100) (hs : ∀ c ∈ l, c < 128) (k : ∀ m S', m.length ≤ 3 * (l.length + 1) → (∀ c ∈ m, c < 128) → Bg S' a → Q (.str (SX.S m)) S') : m_l_by_words [.ref a, .str (SX.S l)] S Q E := by
  refine e_l_by_words ?_
  unfold t_l_by_words
  show sSeq _ (sSeq _ (sSeq _ (sSeq _ tailW))) _ _ _
  walk_at "bl"
  refine splitR_k (c := 32) (by decide) (by omega) fun p hp => ?_
  have hsum := spl_sum (c := 32) _ (Nat.le_refl l.length)
  obtain ⟨hsm, hlen⟩ := spl_sm (c := 32) _ (Nat.le_refl _) (show Sm l from ⟨by omega, hs⟩)
  have hne := spl_ne (c := 32) l
  generalize TL.spl [32] 0 [] l = ws at hsum hsm hlen hne ⊢
  have pa : p ≠ a := fun z => by
    obtain ⟨x, y, ha, _⟩ := hb
    rw [← z, hp] at ha
    cases ha
  have n0 : 0 < ws.length := List.length_pos_iff.mpr hne
  have bup : ∀ {s : Sto} {xs : List D}, Bg s a → Bg (sup s p xs) a := fun {s xs} hb => by
    obtain ⟨x, y, ha, hr⟩ := hb
    exact ⟨x, y, by rw [sup_ne (Ne.symm pa)]; exact ha, hr⟩
  have bdl : ∀ {s : Sto}, Bg s a → Bg (sdel s p) a := fun {s} hb => by
    obtain ⟨x, y, ha, hr⟩ := hb
    exact ⟨x, y, by rw [sdel_ne (Ne.symm pa)]; exact ha, hr⟩
  have b1 : Bg (sup S p (ws.map fun l => D.str (SX.S l))) a := bup hb
  have e1 : (sup S p (ws.map fun l => D.str (SX.S l))) p = some (ws.map fun l => D.str (SX.S l)) := sup_same
  generalize sup S p (ws.map fun l => D.str (SX.S l)) = S1 at b1 e1 ⊢
  walk_at "bl"
  refine Go.lenR e1 ?_
  rw [List.length_map]
  walk_at "bl"
  have sn : sm 9000 ((ws.length : Nat) : Int) := (show sm 9 _ by unfold sm; omega).mono (by decide)
  refine take_spec b1 (by omega) sn fun t S2 t0 t1 b2 f2 => ?_
  obtain ⟨i, rfl⟩ := Int.eq_ofNat_of_zero_le t0
  have e2 : S2 p = some (ws.map fun l => D.str (SX.S l)) := by rw [f2 p pa]; exact e1
  walk_at "bl"
  refine Go.lenR e2 ?_
  rw [List.length_map]
  walk_at "bl"
  refine take_spec b2 (by omega) sn fun t S3 u0 u1 b3 f3 => ?_
  obtain ⟨j, rfl⟩ := Int.eq_ofNat_of_zero_le u0
  have e3 : S3 p = some (ws.map fun l => D.str (SX.S l)) := by rw [f3 p pa]; exact e2
  walk_at "bl"
  refine take_spec b3 (by decide) (sm_k (by decide)) fun way S4 w0 w1 b4 f4 => ?_
  have e4 : S4 p = some (ws.map fun l => D.str (SX.S l)) := by rw [f4 p pa]; exact e3
  have hi : i < ws.length := by omega
  have hj : j < ws.length := by omega
  have gi : ws[i]? = some (ws[i]'hi) := List.getElem?_eq_getElem hi
  have gj : ws[j]? = some (ws[j]'hj) := List.getElem?_eq_getElem hj
  have mi := sum_mem (List.getElem_mem hi)
  have mj := sum_mem (List.getElem_mem hj)
  have ci : ∀ z ∈ ws, ∀ c ∈ z, c < 128 := fun z hz => (hsm z hz).2
  have fin : ∀ (zs : List (List Nat)) (s : Sto) (o6 : Option D), s p = some (zs.map fun l => D.str (SX.S l)) → (zs.map (·.length)).sum + zs.length ≤ 3 * (l.length + 1) → (∀ z ∈ zs, ∀ c ∈ z, c < 128) → Bg s a → tailW [some (.ref a), some (.str (SX.S l)), some (.ref p), some (.int i), some (.int j), some (.int way), o6] s ⟨fun _ S1 => Q .non S1, Q, fun _ _ => False, fun _ _ => False, fun x _ S1 => E x S1⟩ := fun zs s o6 hz h1 h2 hbs => by
    refine tail_w hz (by omega) ?_
    refine k _ _ ?_ (fun c hc => ?_) (bdl hbs)
    · by_cases h0 : zs = []
      · subst h0
        exact Nat.zero_le _
      · have := joinL_len (c := 32) h0
        omega
    · rcases joinL_sign hc with h | ⟨z, h3, h4⟩
      · omega
      · exact h2 z h3 c h4
  walk_at "bl"
  refine Go.ifD (fun h => ?_) fun h => ?_
  · walk_at "bl"
    refine lmG rfl e4 ?_
    walk_at "bl"
    refine popK e4 (by omega) (by rw [List.getElem?_map, gi]; rfl) ?_
    rw [map_erase]
    walk_at "bl"
    refine fin (ws.eraseIdx i) _ _ sup_same ?_ (fun z hz => ci z (List.mem_of_mem_eraseIdx hz)) (bup b4)
    have := sum_erase ws i
    rw [List.length_eraseIdx_of_lt hi]
    omega
  walk_at "bl"
  refine Go.ifD (fun h => ?_) fun h => ?_
  · walk_at "bl"
    refine lmG rfl e4 ?_
    walk_at "bl"
    refine Go.ixR e4 (d := .str (SX.S (ws[j]'hj))) (atI_nat (by rw [List.getElem?_map, gj]; rfl)) ?_
    walk_at "bl"
    refine insK e4 (by omega) (by rw [List.length_map]; omega) ?_
    walk_at "bl"
    refine fin (ws.take i ++ [ws[j]'hj] ++ ws.drop i) _ _ ?_ ?_ (fun z hz => ?_) (bup b4)
    · rw [sup_same, List.map_append, List.map_append, List.map_take, List.map_drop]
      rfl
    · have e : ((ws.take i ++ [ws[j]'hj] ++ ws.drop i).map (·.length)).sum = (ws.map (·.length)).sum + (ws[j]'hj).length := by
        rw [List.map_append, List.map_append, List.sum_append, List.sum_append]
        have : (ws.map (·.length)).sum = ((ws.take i).map (·.length)).sum + ((ws.drop i).map (·.length)).sum := by
          rw [← List.sum_append, ← List.map_append, List.take_append_drop]
        rw [this]
        simp
        omega
      rw [e, List.length_append, List.length_append, List.length_singleton, List.length_take, List.length_drop]
      omega
    · rcases List.mem_append.mp hz with hz | hz
      · rcases List.mem_append.mp hz with hz | hz
        · exact ci z (List.mem_of_mem_take hz)
        · rw [List.mem_singleton.mp hz]
          exact ci _ (List.getElem_mem hj)
      · exact ci z (List.mem_of_mem_drop hz)
  · walk_at "bl"
    refine Go.ixR e4 (d := .str (SX.S (ws[i]'hi))) (atI_nat (by rw [List.getElem?_map, gi]; rfl)) ?_
    walk_at "bl"
    refine Go.ixR e4 (d := .str (SX.S (ws[j]'hj))) (atI_nat (by rw [List.getElem?_map, gj]; rfl)) ?_
    walk_at "bl"
    refine setK e4 (by rw [List.length_map]; exact hi) ?_
    walk_at "bl"
    refine setK sup_same (by rw [List.length_set, List.length_map]; exact hj) ?_
    refine fin ((ws.set i (ws[j]'hj)).set j (ws[i]'hi)) _ _ ?_ ?_ (fun z hz => ?_) (bup (bup b4))
    · rw [sup_same, List.map_set, List.map_set]
    · have h1 := sum_set (ws.set i (ws[j]'hj)) j (ws[i]'hi)
      have h2 := sum_set ws i (ws[j]'hj)
      rw [List.length_set, List.length_set]
      omega
    · rcases List.mem_or_eq_of_mem_set hz with hz | rfl
      · rcases List.mem_or_eq_of_mem_set hz with hz | rfl
        · exact ci z hz
        · exact ci _ (List.getElem_mem hj)
      · exact ci _ (List.getElem_mem hi)
theorem ggl' {env : Ev} {S : Sto} {Q : DK} {E : EK} (k : Q (.obj FnA.rr) S) : dGl env S Q E := k
local macro_rules | `(tactic| walk_at "blz") => `(tactic| (with_reducible (first | refine gmt ?_ | refine gtx ?_ | refine ggl' ?_)))
/-! ### the law -/
def consA : List (List Nat) := [[], [115, 112, 111, 116], [115, 112, 111, 116, 32], [115, 112, 111, 116, 32, 49], [115, 112, 111, 116, 32, 49, 44, 50, 44, 51], [115, 112, 111, 116, 32, 49, 47, 50, 44, 51], [99, 111, 114, 100, 32, 48, 44, 48, 32, 49, 44, 49], [99, 111, 114, 100, 32, 48, 44, 48, 32, 48, 44, 48], [99, 111, 114, 100, 32, 48, 44, 48, 32, 51, 44, 52, 32, 51, 44, 52], [98, 111, 119, 32, 48, 44, 48, 32, 51, 44, 52, 32, 52, 44, 51], [98, 111, 119, 32, 48, 44, 48, 32, 45, 51, 44, 52, 32, 51, 44, 52], [83, 112, 111, 116, 32, 49, 44, 50], [32, 115, 112, 111, 116, 32, 49, 44, 50], [115, 112, 111, 116, 32, 32, 49, 44, 50], [115, 112, 111, 116, 32, 49, 48, 48, 49, 44, 48], [115, 112, 111, 116, 32, 45, 48, 44, 49], [115, 112, 111, 116, 32, 48, 49, 44, 49], [107, 110, 111, 116, 32, 49, 44, 50]]
theorem cons_sm : ∀ l ∈ consA, Sm l := by
  intro l hl
  have h : ∀ l ∈ consA, l.length ≤ 640 ∧ ∀ c ∈ l, c < 128 := by decide
  exact h l hl
theorem catL {ds es : List D} {S : Sto} {Q : DK} (h : Nat.ble (ds ++ es).length 1000 = true) (k : Q (.lst (ds ++ es)) S) : fCat (.lst ds) (.lst es) S Q := ⟨by have := Nat.le_of_ble_eq_true h; rw [List.length_append] at this; exact Nat.le_trans this (by decide), k⟩
theorem catG_l {a b : List D} {S : Sto} {Q : DK} (h : Nat.ble (a ++ b).length 1000 = true) (k : ∀ p, S p = none → Q (.ref p) (sup S p (a ++ b))) : fCatG (.lst a) (.lst b) S Q := ⟨by have := Nat.le_of_ble_eq_true h; rw [List.length_append] at this; exact Nat.le_trans this (by decide), k⟩
theorem catG_r {r : Addr} {a b : List D} {S : Sto} {Q : DK} (e : S r = some a) (h : Nat.ble (a ++ b).length 1000 = true) (k : ∀ p, S p = none → Q (.ref p) (sup S p (a ++ b))) : fCatG (.ref r) (.lst b) S Q := by
  unfold fCatG
  dsimp only
  rw [e]
  exact ⟨by have := Nat.le_of_ble_eq_true h; rw [List.length_append] at this; exact Nat.le_trans this (by decide), k⟩
theorem okN_S {n : Nat} {l : List Nat} (h : ∀ c ∈ l, c < 128) : okN n (.str (SX.S l)) := okN_str (ok_S h)
theorem okN_W {n : Nat} {w : List Nat} {ps : List P2} (h : ∀ c ∈ w, c < 128) : okN (n + 2) (thW w ps) := okN_tup (okNs_cons (okN_S h) (okNs_all fun d hd => by
  obtain ⟨p, _, rfl⟩ := List.mem_map.mp hd
  exact okN_pr _ _))
structure Wd (w : List Nat) (ps : List P2) : Prop where
  b : thB w ps = true
  l : w.length ≤ 10
  c : ∀ c ∈ w, c < 128
  n : 32 ∉ w
  p : ∀ p ∈ ps, Bd p
  m : ps.length ≤ 3
theorem th_words {t : Th} (h : GoodTh t) : ∃ w ps, thD t = thW w ps ∧ Wd w ps := by
  cases t with
  | spot p =>
    refine ⟨spotL, [p], rfl, ?_, by decide, by decide, by decide, fun q hq => by rw [List.mem_singleton.mp hq]; exact h, by simp⟩
    show (decide (spotL = spotL) && ptB p) = true
    rw [ptB_of h]
    rfl
  | cord p q =>
    obtain ⟨h1, h2, h3, h4⟩ := h
    refine ⟨cordL, [p, q], rfl, ?_, by decide, by decide, by decide, fun x hx => ?_, by simp⟩
    · show (decide (cordL = cordL) && (ptB p && (ptB q && cordB p q))) = true
      rw [ptB_of h1, ptB_of h2]
      unfold cordB
      rw [decide_eq_false h3, decide_eq_true (sqi_of h4)]
      rfl
    · simp only [List.mem_cons, List.not_mem_nil, or_false] at hx
      rcases hx with rfl | rfl <;> assumption
  | bow c p q =>
    obtain ⟨h1, h2, h3, hb⟩ := h
    refine ⟨bowL, [c, p, q], rfl, ?_, by decide, by decide, by decide, fun x hx => ?_, by simp⟩
    · show (decide (bowL = bowL) && (ptB c && (ptB p && (ptB q && bowB c p q)))) = true
      rw [ptB_of h1, ptB_of h2, ptB_of h3]
      unfold bowB
      rw [decide_eq_false hb.ne, decide_eq_true hb.eq, decide_eq_true (sqi_of hb.wr), decide_eq_true (sqi_of hb.wd), decide_eq_true hb.tn]
      rfl
    · simp only [List.mem_cons, List.not_mem_nil, or_false] at hx
      rcases hx with rfl | rfl | rfl <;> assumption
theorem word_sm {l w : List Nat} {ps : List P2} (hs : Sm l) (h : thingIn l = some (w, ps)) : ∀ c ∈ w, c < 128 := by
  obtain ⟨hsm, _⟩ := spl_sm (c := 32) _ (Nat.le_refl _) hs
  unfold thingIn at h
  generalize TL.spl [32] 0 [] l = ws at hsm h
  cases ws with
  | nil => cases h
  | cons w2 ls =>
    have h : thingOf w2 ls = some (w, ps) := h
    unfold thingOf at h
    split at h
    · split at h
      · cases h
        exact (hsm w (by simp)).2
      · cases h
    · cases h
theorem wides {d : Int} (h0 : 0 ≤ d) (h1 : d < 2) : ∃ x : Int, 0 < x ∧ x ≤ 900 ∧ atI [D.int 9, .int 900] d = some (.int x) := by
  rcases (by omega : d = (0 : Nat) ∨ d = (1 : Nat)) with h | h <;> subst h <;> exact ⟨_, by decide, by decide, atI_nat rfl⟩
theorem law_pure : ∀ ns : List Int, ns.length ≤ 63 → m_law [.lst (ns.map D.int)] (fun _ => none) (fun d _ => d = .bl true) fun _ _ => False := by
  intro ns hl
  refine e_law ?_
  unfold t_law
  walk_at "bl"
  refine Go.r1' (n := max 1 (min 4 ns.length)) (by rw [List.length_map]; split <;> split <;> omega) (by omega) ?_
  refine forD_rng (fun j e s => ∃ o1 o2 o3 o4 o5 o6 o7 o8 o9 o10, e = [some (.lst (ns.map D.int)), o1, o2, o3, o4, o5, o6, o7, o8, o9, o10]) ⟨_, _, _, _, _, _, _, _, _, _, rfl⟩ ?_ ?_
  · rintro j e s hj ⟨o1, o2, o3, o4, o5, o6, o7, o8, o9, o10, rfl⟩
    refine ⟨_, rfl, fun N' hnx _ _ _ _ => ?_⟩
    show sSeq _ _ [some (.lst (ns.map D.int)), some (.int (0 + j)), o2, o3, o4, o5, o6, o7, o8, o9, o10] _ _
    walk_at "bl"
    refine bag_spec (by omega) (by omega) fun a S1 na b1 f1 => ?_
    walk_at "bl"
    refine take_spec b1 (by decide) (sm_k (by decide)) fun d S2 d0 d1 b2 f2 => ?_
    obtain ⟨wide, wd0, wd1, ewd⟩ := wides d0 d1
    refine Go.ixL ewd ?_
    walk_at "bl"
    refine take_spec b2 (by decide) (sm_k (by decide)) fun way S3 y0 y1 b3 f3 => ?_
    walk_at "bl"
    refine thing_spec b3 wd0 wd1 fun t S4 gt _ _ b4 => ?_
    obtain ⟨w, ps, et, hw⟩ := th_words gt
    rw [et]
    have back := thing_back hw.n hw.b
    have tsm := thText_sm hw.l hw.c hw.p hw.m
    walk_at "bl"
    refine l_thing_text_spec hw.l hw.p hw.m ?_
    walk_at "bl"
    refine show_thing_spec hw.l hw.p hw.m ?_
    generalize thText w ps = T at back tsm ⊢
    have sT : Sm T := ⟨by omega, tsm.2⟩
    walk_at "bl"
    refine ne_refl (n := 2) (okN_S sT.2) (by decide) ?_
    walk_at "bl"
    refine l_read_spec sT ?_
    rw [back, show oR (some (w, ps)) = thW w ps from rfl]
    walk_at "bl"
    refine ne_refl (n := 2) (okN_W hw.c) (by decide) ?_
    walk_at "bl"
    refine Go.r1' (n := 5) rfl (by decide) ?_
    show Go.lcK _ _ _ _ _ [.int 0, .int 1, .int 2, .int 3, .int 4] _ _
    walk_at "bl"
    refine bent_spec b4 (by omega) sT.2 fun m1 S5 lm1 cm1 b5 f5 => ?_
    walk_at "bl"
    refine bent_spec b5 (by omega) sT.2 fun m2 S6 lm2 cm2 b6 f6 => ?_
    walk_at "bl"
    refine bent_spec b6 (by omega) sT.2 fun m3 S7 lm3 cm3 b7 f7 => ?_
    walk_at "bl"
    refine bent_spec b7 (by omega) sT.2 fun m4 S8 lm4 cm4 b8 f8 => ?_
    walk_at "bl"
    refine bent_spec b8 (by omega) sT.2 fun m5 S9 lm5 cm5 b9 f9 => ?_
    walk_at "bl"
    refine Go.r1' (n := 3) rfl (by decide) ?_
    show Go.lcK _ _ _ _ _ [.int 0, .int 1, .int 2] _ _
    walk_at "bl"
    refine by_words_spec b9 (by omega) sT.2 fun n1 S10 ln1 cn1 b10 => ?_
    walk_at "bl"
    refine by_words_spec b10 (by omega) sT.2 fun n2 S11 ln2 cn2 b11 => ?_
    walk_at "bl"
    refine by_words_spec b11 (by omega) sT.2 fun n3 S12 ln3 cn3 b12 => ?_
    walk_at "bl"
    refine catL rfl ?_
    walk_at "bl"
    have s0 : Sm [98, 111, 119, 32, 48, 44, 48, 32, 51, 44, 52, 32, 45, 51, 44, 52] := ⟨by decide, by decide⟩
    have l0 : ([98, 111, 119, 32, 48, 44, 48, 32, 51, 44, 52, 32, 45, 51, 44, 52] : List Nat).length = 16 := rfl
    refine bent_spec (l := [98, 111, 119, 32, 48, 44, 48, 32, 51, 44, 52, 32, 45, 51, 44, 52]) b12 (by decide) s0.2 fun m6 S13 lm6 cm6 b13 f13 => ?_
    walk_at "bl"
    refine catG_l rfl fun p1 hp1 => ?_
    walk_at "bl"
    refine catG_r sup_same rfl fun p2 hp2 => ?_
    walk_at "bl"
    refine catG_r sup_same rfl fun p3 hp3 => ?_
    walk_at "bl"
    have six : ([32] : List Nat).length = 1 := rfl
    refine Go.appG rfl sup_same ?_
    walk_at "bl"
    refine add_S (a := T) (b := [32]) (by rw [List.length_append, six]; omega) ?_
    walk_at "bl"
    refine Go.appK sup_same (Nat.le_of_ble_eq_true rfl) ?_
    walk_at "bl"
    refine Go.frz rfl sup_same ?_
    have hall : ∀ l ∈ ([m1, m2, m3, m4, m5, n1, n2, n3, m6] ++ consA ++ [T ++ [32]]), Sm l := fun l h => by
      rcases List.mem_append.mp h with h | h
      · rcases List.mem_append.mp h with h | h
        · simp only [List.mem_cons, List.not_mem_nil, or_false] at h
          rcases h with rfl | rfl | rfl | rfl | rfl | rfl | rfl | rfl | rfl
          · exact ⟨by omega, cm1⟩
          · exact ⟨by omega, cm2⟩
          · exact ⟨by omega, cm3⟩
          · exact ⟨by omega, cm4⟩
          · exact ⟨by omega, cm5⟩
          · exact ⟨by omega, cn1⟩
          · exact ⟨by omega, cn2⟩
          · exact ⟨by omega, cn3⟩
          · exact ⟨by omega, cm6⟩
        · exact cons_sm l h
      · rw [List.mem_singleton.mp h]
        refine ⟨by rw [List.length_append, six]; omega, fun c hc => ?_⟩
        rcases List.mem_append.mp hc with hc | hc
        · exact sT.2 c hc
        · rw [List.mem_singleton.mp hc]; decide
    show sFor _ _ _ [some (.lst (ns.map D.int)), some (.int (0 + j)), some (.ref a), some (thW w ps), some (.str (SX.S T)), some (.lst (([m1, m2, m3, m4, m5, n1, n2, n3, m6] ++ consA ++ [T ++ [32]]).map fun l => D.str (SX.S l))), o6, o7, o8, o9, o10] _ _
    generalize sdel _ _ = S14
    walk_at "bl"
    refine forD_map (fun xs e s => ∃ o6 o7 o8 o9 o10, e = [some (.lst (ns.map D.int)), some (.int (0 + j)), some (.ref a), some (thW w ps), some (.str (SX.S T)), some (.lst (([m1, m2, m3, m4, m5, n1, n2, n3, m6] ++ consA ++ [T ++ [32]]).map fun l => D.str (SX.S l))), o6, o7, o8, o9, o10] ∧ ∀ l ∈ xs, Sm l) ?_ ?_ _ ⟨_, _, _, _, _, rfl, hall⟩
    · rintro l xs e s ⟨o6, o7, o8, o9, o10, rfl, hx⟩
      refine ⟨_, rfl, fun N2 hnx2 _ _ _ _ => ?_⟩
      show sSeq _ _ [some (.lst (ns.map D.int)), some (.int (0 + j)), some (.ref a), some (thW w ps), some (.str (SX.S T)), some (.lst (([m1, m2, m3, m4, m5, n1, n2, n3, m6] ++ consA ++ [T ++ [32]]).map fun l => D.str (SX.S l))), some (.str (SX.S l)), o7, o8, o9, o10] _ _
      have sl := hx l (List.mem_cons_self ..)
      generalize hE : (some (D.lst (([m1, m2, m3, m4, m5, n1, n2, n3, m6] ++ consA ++ [T ++ [32]]).map fun l => D.str (SX.S l)))) = tx at hnx2 ⊢
      walk_at "bl"
      refine l_thing_in_spec sl fun S15 => ?_
      cases hp : thingIn l with
      | none =>
        rw [show oTh none = D.non from rfl]
        walk_at "bl"
        refine l_read_spec sl ?_
        rw [hp, show oR none = D.str "none" from rfl]
        walk_at "bl"
        refine Go.ifBT rfl ?_
        walk_at "bl"
        exact hnx2 _ _ ⟨_, _, _, _, _, rfl, fun l hl => hx l (List.mem_cons_of_mem _ hl)⟩
      | some z =>
        obtain ⟨w2, ps2⟩ := z
        have cw2 := word_sm sl hp
        rw [show oTh (some (w2, ps2)) = thW w2 ps2 from rfl]
        walk_at "bl"
        refine l_read_spec sl ?_
        rw [hp, show oR (some (w2, ps2)) = thW w2 ps2 from rfl]
        walk_at "bl"
        refine Go.ifBF rfl ?_
        walk_at "bl"
        refine ne_refl (n := 2) (okN_W cw2) (by decide) ?_
        walk_at "bl"
        exact hnx2 _ _ ⟨_, _, _, _, _, rfl, fun l hl => hx l (List.mem_cons_of_mem _ hl)⟩
    · rintro e s ⟨o6, o7, o8, o9, o10, rfl, _⟩
      generalize hE : (some (D.lst (([m1, m2, m3, m4, m5, n1, n2, n3, m6] ++ consA ++ [T ++ [32]]).map fun l => D.str (SX.S l)))) = tx
      walk_at "bl"
      refine l_read_other rfl ?_
      walk_at "bl"
      refine l_read_other rfl ?_
      walk_at "bl"
      refine l_read_other rfl ?_
      walk_at "bl"
      refine l_read_other rfl ?_
      walk_at "bl"
      refine l_read_other rfl ?_
      walk_at "bl"
      refine l_read_other rfl ?_
      walk_at "bl"
      exact hnx _ _ ⟨_, _, _, _, _, _, _, _, _, _, rfl⟩
  · rintro e s ⟨o1, o2, o3, o4, o5, o6, o7, o8, o9, o10, rfl⟩
    walk_at "bl"
    rfl
end K69

end
namespace K69
open PySem PySem.Spec PyProof.Rows L2 Bl Lb
theorem facts {P : Program} {w : World} {K : PySem.W.Frag} {h : Heap} {mg : Str → Option Value} {f : Addr} (X : K.In h) (G : h.Ns mainGlobals mg) (hfa : mg ("law" : Str) = some (.ref f)) (c : He.SaysT fa fn ts w K ∧ bx K = true) :
    ∃ fd : FuncData, (∀ (s : Shared) (v : Value), BindsTo s fd ⟨[v], []⟩ [("_law_script", v)]) ∧ ∀ base : Heap, K.In base → base.Ns mainGlobals mg → FnOk P w K mg base (L2.CX P w) 7 f fd ["_law_script"] (spLaw K 63) := by
  letI iA : FnA := ⟨He.ga K "read_thing"⟩
  have T : TpF "read_thing" fa fn bx ts w K mg := TpF.mk' X G c
  obtain ⟨fd, F⟩ := T.sy.def_ 30 (d := d_law) rfl
  have e := hfa.symm.trans (T.glo 60 (x := "law"))
  cases e
  refine ⟨fd, fun s v => FunD.bindsA (ps := ["_law_script"]) F (fun _ _ _ _ _ _ us hl => match us, hl with | [_], _ => rfl) s [v] rfl, fun base _ _ => ?_⟩
  have hok : FnOk P w K mg base (L2.CX P w) 7 _ fd ["_law_script"] (LSp K 1 m_law) := ok_law T F
  exact hok.imp (law_sp (mo_law (P := P) (w := w) (base := base) T) law_pure)
end K69
open PySem PySem.W PyProof.Rows
set_option maxHeartbeats 0 in
theorem PySem.Challenge.cw_bendlands_k69_texts_of_things_holds : PySem.Challenge.rw_bendlands_k69_texts_of_things.Holds := by
  w_on; o_law
  k_head
  case hw => w_witness2
  k_fill
  refine Bl.walk_ofX (l := PySem.Challenge.rw_bendlands_k69_texts_of_things) (n := 63) (k := 7) (x := "_law_script") rfl (by decide) (by first | rfl | kernel_rfl) ⟨rfl, by decide, by decide⟩ ?F
  case F =>
    intro w mg fa h Y G hmg0
    have KX := PySem.W.kIn_of Y
    have hmg : mg ("law" : PySem.Str) = some (.ref fa) := hmg0
    obtain ⟨fd, hb, hF⟩ := K69.facts (P := (PySem.Challenge.rw_bendlands_k69_texts_of_things).prog) (w := w) KX G hmg ⟨by (unfold He.SaysT; kernel_rfl), by kernel_rfl⟩
    exact ⟨_, fd, KX, hb, hF⟩
