import PyProof.Rows.All
import Wide.All
import OpenK.AllK
import Wide.FinOn
import HandS.ForMost
import HandS.IsInst
import HandS.TupAny
import HandS.More
import HandS.Zip
import HandS.CallLocal
import HandS.Exc
import KE.LtData
import KE.GoesNew
import HandS.Style
import HandS.Wide
import HandS.Conv
import PySem.Challenge.RW_leasefiles_k19_whole_sheets_by_their_dee
import HandS.Words
set_option Elab.async false
set_option linter.all false
set_option maxRecDepth 100000
set_option maxHeartbeats 4000000
/-! The data layer: what a reading does, told over data (PyData) in place of addresses. -/
namespace Dl
open PySem PySem.Spec PyProof.Rows L2

/-- a value as it is told: data, or a raw value (a def, a class, a mutable object) -/
inductive EV where
  | d (x : PyData)
  | r (v : V)
  | rl (vs : List V)

def Ex (H H' : Hp) : Prop := ∀ a o, H a = some o → H' a = some o
theorem Ex.refl (H : Hp) : Ex H H := fun _ _ h => h
theorem Ex.trans {H H1 H2 : Hp} (a : Ex H H1) (b : Ex H1 H2) : Ex H H2 := fun x o h => b x o (a x o h)
theorem Ex.new {H : Hp} {p : Addr} {o : HO} (h : H p = none) : Ex H (upd H p o) := fun a u e => by
  rw [upd_ne (ne_of_none e h)]; exact e
theorem Ex.seqL {K : PySem.W.Frag} {H H' : Hp} {a : Addr} {xs : List V} (e : Ex H H') (h : SqL K H a xs) : SqL K H' a xs := Same.seq e h
theorem Ex.seqT {K : PySem.W.Frag} {H H' : Hp} {a : Addr} {xs : List V} (e : Ex H H') (h : SqT K H a xs) : SqT K H' a xs := by
  rcases h with (h | ⟨o, h⟩) | h
  · exact .inl (.inl (e _ _ h))
  · exact .inl (.inr ⟨o, e _ _ h⟩)
  · exact .inr h
mutual
theorem dp_mono {K : PySem.W.Frag} {H H' : Hp} (e : Ex H H') : ∀ (d : PyData) (v : V), Dp K H v d → Dp K H' v d
  | .none, _, h => by cases h; exact .non
  | .bool b, _, h => by cases h; exact .bl b
  | .int i, _, h => by cases h; exact .int i
  | .str x, _, h => by cases h; exact .str x
  | .list ds, _, h => by
    cases h with
    | lst h1 h2 => exact .lst (e.seqL h1) (dpAll_mono e ds _ h2)
  | .tuple ds, _, h => by
    cases h with
    | tup h1 h2 => exact .tup (e.seqT h1) (dpAll_mono e ds _ h2)
  | .dict _, _, h => by cases h
theorem dpAll_mono {K : PySem.W.Frag} {H H' : Hp} (e : Ex H H') : ∀ (ds : List PyData) (vs : List V), DpAll K H vs ds → DpAll K H' vs ds
  | [], _, h => by cases h; exact .nil
  | d :: ds, _, h => by
    cases h with
    | cons h1 h2 => exact .cons (dp_mono e d _ h1) (dpAll_mono e ds _ h2)
end
theorem dpAll_len {K : PySem.W.Frag} {H : Hp} : ∀ {ds : List PyData} {vs : List V}, DpAll K H vs ds → vs.length = ds.length
  | [], _, h => by cases h; rfl
  | d :: ds, _, h => by
    cases h with
    | cons _ h2 => simp [dpAll_len h2]
theorem dpAll_get {K : PySem.W.Frag} {H : Hp} : ∀ {ds : List PyData} {vs : List V} {i : Nat} {d : PyData}, DpAll K H vs ds → ds[i]? = some d → ∃ v, vs[i]? = some v ∧ Dp K H v d
  | [], _, _, _, h, e => by simp at e
  | d :: ds, _, 0, _, h, e => by
    cases h with
    | cons h1 h2 => simp at e; subst e; exact ⟨_, rfl, h1⟩
  | d :: ds, _, i + 1, _, h, e => by
    cases h with
    | cons h1 h2 =>
      obtain ⟨v, e1, e2⟩ := dpAll_get (i := i) h2 (by simpa using e)
      exact ⟨v, by simpa using e1, e2⟩
theorem dpAll_append {K : PySem.W.Frag} {H : Hp} : ∀ {ds es : List PyData} {vs ws : List V}, DpAll K H vs ds → DpAll K H ws es → DpAll K H (vs ++ ws) (ds ++ es)
  | [], _, _, _, h, k => by cases h; exact k
  | d :: ds, _, _, _, h, k => by
    cases h with
    | cons h1 h2 => exact .cons h1 (dpAll_append h2 k)
theorem dpAll_take {K : PySem.W.Frag} {H : Hp} : ∀ (n : Nat) {ds : List PyData} {vs : List V}, DpAll K H vs ds → DpAll K H (vs.take n) (ds.take n)
  | 0, _, _, _ => by simpa using DpAll.nil
  | n + 1, [], _, h => by cases h; exact .nil
  | n + 1, d :: ds, _, h => by
    cases h with
    | cons h1 h2 => exact .cons h1 (dpAll_take n h2)
theorem dpAll_drop {K : PySem.W.Frag} {H : Hp} : ∀ (n : Nat) {ds : List PyData} {vs : List V}, DpAll K H vs ds → DpAll K H (vs.drop n) (ds.drop n)
  | 0, _, _, h => h
  | n + 1, [], _, h => by cases h; exact .nil
  | n + 1, d :: ds, _, h => by
    cases h with
    | cons h1 h2 => exact dpAll_drop n h2
theorem dpAll_bls {K : PySem.W.Frag} {H : Hp} : ∀ {bs : List Bool} {vs : List V}, DpAll K H vs (bs.map .bool) → vs = bs.map V.bl
  | [], _, h => by cases h; rfl
  | b :: bs, _, h => by
    cases h with
    | cons h1 h2 => cases h1; rw [dpAll_bls h2]; rfl
theorem dpAll_ints {K : PySem.W.Frag} {H : Hp} : ∀ {ns : List Int} {vs : List V}, DpAll K H vs (ns.map .int) → vs = ns.map V.int
  | [], _, h => by cases h; rfl
  | b :: bs, _, h => by
    cases h with
    | cons h1 h2 => cases h1; rw [dpAll_ints h2]; rfl
theorem dpAll_strs {K : PySem.W.Frag} {H : Hp} : ∀ {ns : List Str} {vs : List V}, DpAll K H vs (ns.map .str) → vs = ns.map V.str
  | [], _, h => by cases h; rfl
  | b :: bs, _, h => by
    cases h with
    | cons h1 h2 => cases h1; rw [dpAll_strs h2]; rfl
theorem dpAll_ofInts {K : PySem.W.Frag} {H : Hp} : ∀ (ns : List Int), DpAll K H (ns.map V.int) (ns.map .int)
  | [] => .nil
  | n :: ns => .cons (.int n) (dpAll_ofInts ns)

def RelE (K : PySem.W.Frag) (I : Hp) (v : V) : EV → Prop
  | .d x => Dp K I v x
  | .r w => v = w
  | .rl vs => ∃ a, v = .ref a ∧ (SqL K I a vs ∨ SqT K I a vs)
theorem RelE.mono {K : PySem.W.Frag} {I I' : Hp} {v : V} {e : EV} (x : Ex I I') (h : RelE K I v e) : RelE K I' v e := by
  cases e with
  | d d => exact dp_mono x d v h
  | r w => exact h
  | rl vs => exact let ⟨a, e, q⟩ := h; ⟨a, e, q.imp x.seqL x.seqT⟩

/-- a context: the written part, the ghost state, which addresses are mutable in it, what holds of them -/
structure Ctx where
  K : PySem.W.Frag
  S : Type
  M : S → Addr → Prop
  J : S → Hp → Hp → Prop
  jm : ∀ g I I' H H', J g I H → Ex I I' → (∀ a, M g a → H' a = H a) → J g I' H'
  mh : ∀ g I H a, J g I H → M g a → H a ≠ none

structure Ok (c : Ctx) (I H : Hp) (g : c.S) : Prop where
  ex : Ex I H
  j : c.J g I H
  out : ∀ a, c.M g a → I a = none

structure Step (c : Ctx) (I H : Hp) (g : c.S) (I' H' : Hp) (g' : c.S) : Prop where
  im : Ex I I'
  keep : ∀ a o, H a = some o → ¬ c.M g a → H' a = some o
  out : ∀ a, H a ≠ none → I a = none → I' a = none
  mm : ∀ a, c.M g' a → c.M g a ∨ H a = none
  there : ∀ a, H a ≠ none → H' a ≠ none
section
variable {c : Ctx} {I H I1 H1 I2 H2 : Hp} {g g1 g2 : c.S}
theorem Step.refl : Step c I H g I H g := ⟨Ex.refl _, fun _ _ h _ => h, fun _ _ h => h, fun _ h => .inl h, fun _ h => h⟩
theorem Step.trans (a : Step c I H g I1 H1 g1) (b : Step c I1 H1 g1 I2 H2 g2) : Step c I H g I2 H2 g2 where
  im := a.im.trans b.im
  keep := fun x o h n => b.keep x o (a.keep x o h n) fun m => by
    rcases a.mm x m with q | q
    · exact n q
    · rw [q] at h; cases h
  out := fun x h n => b.out x (a.there x h) (a.out x h n)
  mm := fun x m => by
    rcases b.mm x m with q | q
    · exact a.mm x q
    · refine .inr ?_
      cases e : H x with
      | none => rfl
      | some o => exact absurd q (a.there x (by rw [e]; simp))
  there := fun x h => b.there x (a.there x h)
/-- the heap has grown by an object that is not told as data -/
theorem Ok.grow (k : Ok c I H g) {p : Addr} {o : HO} (hp : H p = none) : Ok c I (upd H p o) g :=
  ⟨k.ex.trans (Ex.new hp), c.jm g I I H _ k.j (Ex.refl I) fun a m => upd_ne (fun e => c.mh g I H a k.j m (by rw [e]; exact hp)), k.out⟩
theorem Step.grow {p : Addr} {o : HO} (hp : H p = none) : Step c I H g I (upd H p o) g :=
  ⟨Ex.refl _, fun a u h _ => by rw [upd_ne (ne_of_none h hp)]; exact h, fun _ _ h => h, fun _ h => .inl h, fun a h => by
    by_cases e : a = p
    · exact absurd hp (by rw [← e]; exact h)
    · rw [upd_ne e]; exact h⟩
/-- the immutable part takes in a new object -/
theorem Ok.new (k : Ok c I H g) {p : Addr} {o : HO} (hp : H p = none) : Ok c (upd I p o) (upd H p o) g :=
  ⟨fun a u e => by
    by_cases z : a = p
    · rw [z, upd_same] at e ⊢; exact e
    · rw [upd_ne z] at e ⊢; exact k.ex a u e, c.jm g I _ H _ k.j (Ex.new (by
    cases e : I p with
    | none => rfl
    | some o => rw [k.ex p o e] at hp; cases hp)) fun a m => upd_ne (fun e => c.mh g I H a k.j m (by rw [e]; exact hp)), fun a m => by
    have ne : a ≠ p := fun e => c.mh g I H a k.j m (by rw [e]; exact hp)
    rw [upd_ne ne]; exact k.out a m⟩
theorem Ok.free (k : Ok c I H g) {p : Addr} (hp : H p = none) : I p = none := by
  cases e : I p with
  | none => rfl
  | some o => rw [k.ex p o e] at hp; cases hp
theorem Step.new (k : Ok c I H g) {p : Addr} {o : HO} (hp : H p = none) : Step c I H g (upd I p o) (upd H p o) g :=
  ⟨Ex.new (k.free hp), (Step.grow (c := c) (I := I) (g := g) hp).keep, fun a h n => by
    have ne : a ≠ p := fun e => h (by rw [e]; exact hp)
    rw [upd_ne ne]; exact n, fun _ h => .inl h, (Step.grow (c := c) (o := o) (I := I) (g := g) hp).there⟩
/-- an object that stands already and is not mutable here comes to the immutable part -/
theorem dp_of (k : Ok c I H g) {d : PyData} {v : V} (h : Dp c.K I v d) : Dp c.K H v d := dp_mono k.ex d v h
end

/-- the slots as they are told -/
abbrev Rho := List (Option EV)
def EnvOk (K : PySem.W.Frag) (I : Hp) (σ : L2.St) (ρ : Rho) : Prop := σ.length = ρ.length ∧ ∀ (i : Nat) (e : EV), ρ[i]? = some (some e) → ∃ v, σ[i]? = some (some v) ∧ RelE K I v e
theorem EnvOk.mono {K : PySem.W.Frag} {I I' : Hp} {σ : L2.St} {ρ : Rho} (x : Ex I I') (h : EnvOk K I σ ρ) : EnvOk K I' σ ρ :=
  ⟨h.1, fun i e q => let ⟨v, a, b⟩ := h.2 i e q; ⟨v, a, b.mono x⟩⟩
theorem EnvOk.set {K : PySem.W.Frag} {I : Hp} {σ : L2.St} {ρ : Rho} (h : EnvOk K I σ ρ) (i : Nat) {v : V} {e : EV} (r : RelE K I v e) : EnvOk K I (σ.set i (some v)) (ρ.set i (some e)) := by
  refine ⟨by simp [h.1], fun j f q => ?_⟩
  by_cases z : i = j
  · subst z
    have hl : i < ρ.length := by
      have := (List.getElem?_eq_some_iff.mp q).1
      simpa using this
    rw [List.getElem?_set_self hl] at q
    cases q
    exact ⟨v, by rw [List.getElem?_set_self (by rw [h.1]; exact hl)], r⟩
  · rw [List.getElem?_set_ne z] at q ⊢
    exact h.2 j f q
theorem EnvOk.wipe {K : PySem.W.Frag} {I : Hp} {σ : L2.St} {ρ : Rho} : ∀ (vs : List Nat), EnvOk K I σ ρ → EnvOk K I (wipe σ vs) (vs.foldr (fun i r => r.set i none) ρ) := by
  intro vs
  induction vs with
  | nil => exact id
  | cons i vs ih =>
    intro h
    have q := ih h
    refine ⟨by rw [wipe_length]; simp only [List.foldr_cons, List.length_set]; rw [← q.1, wipe_length], fun j f e => ?_⟩
    simp only [List.foldr_cons] at e
    by_cases z : i = j
    · subst z
      have hl : i < (vs.foldr (fun i r => r.set i none) ρ).length := by
        have := (List.getElem?_eq_some_iff.mp e).1
        simpa using this
      rw [List.getElem?_set_self hl] at e
      cases e
    · rw [List.getElem?_set_ne z] at e
      unfold L2.wipe
      rw [List.getElem?_set_ne z]
      exact q.2 j f e
def wipeR (ρ : Rho) (vs : List Nat) : Rho := vs.foldr (fun i r => r.set i none) ρ

/-! ### judgements -/
section
variable (c : Ctx)
/-- the end of an expression -/
def End (I H : Hp) (g : c.S) (P : EV → c.S → Prop) (Q : VK) : Prop := ∀ v I' H' g' e, Step c I H g I' H' g' → Ok c I' H' g' → RelE c.K I' v e → P e g' → Q v H'
def PV (te : TE) (ρ : Rho) (g : c.S) (P : EV → c.S → Prop) : Prop := ∀ σ I H, Ok c I H g → EnvOk c.K I σ ρ → ∀ Q : VK, End c I H g P Q → te σ H Q
def PB (t : TT) (ρ : Rho) (g : c.S) (P : Bool → c.S → Prop) : Prop := ∀ σ I H, Ok c I H g → EnvOk c.K I σ ρ → ∀ Q : Bool → Hp → Prop, (∀ b I' H' g', Step c I H g I' H' g' → Ok c I' H' g' → P b g' → Q b H') → t σ H Q
def PAs (t : TA) (ρ : Rho) (g : c.S) (P : List EV → c.S → Prop) : Prop := ∀ σ I H, Ok c I H g → EnvOk c.K I σ ρ → ∀ Q : List V → Hp → Prop, (∀ vs I' H' g' es, Step c I H g I' H' g' → Ok c I' H' g' → Paired (RelE c.K I') vs es → P es g' → Q vs H') → t σ H Q
def PPart (t : TO) (ρ : Rho) (g : c.S) (P : Option Int → c.S → Prop) : Prop := ∀ σ I H, Ok c I H g → EnvOk c.K I σ ρ → ∀ Q : Option Int → Hp → Prop, (∀ o I' H' g', Step c I H g I' H' g' → Ok c I' H' g' → P o g' → Q o H') → t σ H Q
/-- an operation on two told values -/
def O2 (r : R2) (x y : EV) (g : c.S) (P : EV → c.S → Prop) : Prop := ∀ I H xv yv, Ok c I H g → RelE c.K I xv x → RelE c.K I yv y → ∀ Q : VK, End c I H g P Q → r xv yv H Q
def O1 (r : V → Hp → VK → Prop) (x : EV) (g : c.S) (P : EV → c.S → Prop) : Prop := ∀ I H xv, Ok c I H g → RelE c.K I xv x → ∀ Q : VK, End c I H g P Q → r xv H Q
def OC (r : List V → Hp → VK → Prop) (es : List EV) (g : c.S) (P : EV → c.S → Prop) : Prop := ∀ I H vs, Ok c I H g → Paired (RelE c.K I) vs es → ∀ Q : VK, End c I H g P Q → r vs H Q
def OSl (r : V → Option Int → Option Int → Hp → VK → Prop) (x : EV) (lo hi : Option Int) (g : c.S) (P : EV → c.S → Prop) : Prop := ∀ I H xv, Ok c I H g → RelE c.K I xv x → ∀ Q : VK, End c I H g P Q → r xv lo hi H Q
end
section
variable {c : Ctx} {ρ : Rho} {g : c.S} {P P' : EV → c.S → Prop} {te ta tb tc : TE} {t u : TT} {I H : Hp} {Q : VK}
theorem Paired.relMono {K : PySem.W.Frag} {I I' : Hp} (x : Ex I I') : ∀ {vs : List V} {es : List EV}, Paired (RelE K I) vs es → Paired (RelE K I') vs es
  | _, _, .nil => .nil
  | _, _, .cons h t => .cons (h.mono x) (Paired.relMono x t)
theorem End.here (k : End c I H g P Q) (ok : Ok c I H g) {v : V} {e : EV} (r : RelE c.K I v e) (p : P e g) : Q v H := k v I H g e Step.refl ok r p
theorem End.step {I' H' : Hp} {g' : c.S} (k : End c I H g P Q) (s : Step c I H g I' H' g') (h : ∀ e g2, P' e g2 → P e g2) : End c I' H' g' P' Q :=
  fun v I2 H2 g2 e s2 ok r p => k v I2 H2 g2 e (s.trans s2) ok r (h e g2 p)
theorem PV.imp (h : PV c te ρ g P') (i : ∀ e g2, P' e g2 → P e g2) : PV c te ρ g P := fun σ I H ok en Q k => h σ I H ok en Q fun v I' H' g' e s ok' r p => k v I' H' g' e s ok' r (i e g' p)
theorem PB.imp {P P' : Bool → c.S → Prop} (h : PB c t ρ g P') (i : ∀ e g2, P' e g2 → P e g2) : PB c t ρ g P := fun σ I H ok en Q k => h σ I H ok en Q fun v I' H' g' s ok' p => k v I' H' g' s ok' (i v g' p)

theorem pv_var {i : Nat} {e : EV} (h : ρ[i]? = some (some e)) (p : P e g) : PV c (tVar i) ρ g P := fun σ I H ok en Q k => by
  obtain ⟨v, e1, r⟩ := en.2 i e h
  exact ⟨v, e1, k.here ok r p⟩
theorem pv_int {i : Int} (p : P (.d (.int i)) g) : PV c (tC (.int i)) ρ g P := fun σ I H ok en Q k => k.here (e := .d (.int i)) ok (Dp.int i) p
theorem pv_bl {b : Bool} (p : P (.d (.bool b)) g) : PV c (tC (.bl b)) ρ g P := fun σ I H ok en Q k => k.here (e := .d (.bool b)) ok (Dp.bl b) p
theorem pv_non (p : P (.d .none) g) : PV c (tC .non) ρ g P := fun σ I H ok en Q k => k.here (e := .d .none) ok Dp.non p
theorem pv_str {x : Str} (p : P (.d (.str x)) g) : PV c (tC (.str x)) ρ g P := fun σ I H ok en Q k => k.here (e := .d (.str x)) ok (Dp.str x) p
theorem pv_raw {v : V} (p : P (.r v) g) : PV c (tC v) ρ g P := fun σ I H ok en Q k => k.here (e := .r v) ok rfl p
/-- a constant of the module that is data -/
theorem pv_const {v : V} {d : PyData} (h : ∀ I, Dp c.K I v d) (p : P (.d d) g) : PV c (tC v) ρ g P := fun σ I H ok en Q k => k.here (e := .d d) ok (h I) p

theorem pv_op {r : R2} (h : PV c ta ρ g fun x g1 => PV c tb ρ g1 fun y g2 => O2 c r x y g2 P) : PV c (tOp r ta tb) ρ g P := fun σ I H ok en Q k =>
  h σ I H ok en _ fun v I1 H1 g1 x s1 ok1 r1 p1 => p1 σ I1 H1 ok1 (en.mono s1.im) _ fun u I2 H2 g2 y s2 ok2 r2 p2 =>
    p2 I2 H2 v u ok2 (r1.mono s2.im) r2 Q fun z I3 H3 g3 e s3 ok3 r3 p3 => k z I3 H3 g3 e ((s1.trans s2).trans s3) ok3 r3 p3
theorem pv_un {r : V → Hp → VK → Prop} (h : PV c ta ρ g fun x g1 => O1 c r x g1 P) : PV c (tUn r ta) ρ g P := fun σ I H ok en Q k =>
  h σ I H ok en _ fun v I1 H1 g1 x s1 ok1 r1 p1 => p1 I1 H1 v ok1 r1 Q fun z I3 H3 g3 e s3 ok3 r3 p3 => k z I3 H3 g3 e (s1.trans s3) ok3 r3 p3
theorem pas_nil {P : List EV → c.S → Prop} (p : P [] g) : PAs c tNil ρ g P := fun σ I H ok en Q k => k [] I H g [] Step.refl ok .nil p
theorem pas_cons {P : List EV → c.S → Prop} {tr : TA} (h : PV c ta ρ g fun x g1 => PAs c tr ρ g1 fun es g2 => P (x :: es) g2) : PAs c (tCons ta tr) ρ g P := fun σ I H ok en Q k =>
  h σ I H ok en _ fun v I1 H1 g1 x s1 ok1 r1 p1 => p1 σ I1 H1 ok1 (en.mono s1.im) _ fun us I2 H2 g2 es s2 ok2 r2 p2 => k (v :: us) I2 H2 g2 (x :: es) (s1.trans s2) ok2 (.cons (r1.mono s2.im) r2) p2
/-- all told values are data -/
def allD : List EV → Option (List PyData)
  | [] => some []
  | .d x :: r => (allD r).map (x :: ·)
  | .r _ :: _ => none
  | .rl _ :: _ => none
/-- all told values are raw -/
def allR : List EV → Option (List V)
  | [] => some []
  | .r x :: r => (allR r).map (x :: ·)
  | .d _ :: _ => none
  | .rl _ :: _ => none
theorem allR_rel {K : PySem.W.Frag} {I : Hp} : ∀ {vs : List V} {es : List EV} {ds : List V}, Paired (RelE K I) vs es → allR es = some ds → vs = ds
  | _, _, _, .nil, e => by cases e; rfl
  | _, _, _, .cons (b := .r x) (l₂ := r) h t, e => by
    simp only [allR] at e
    cases q : allR r with
    | none => rw [q] at e; cases e
    | some l =>
      rw [q] at e
      cases e
      rw [show _ = x from h, allR_rel t q]
  | _, _, _, .cons (b := .d x) h t, e => by simp [allR] at e
  | _, _, _, .cons (b := .rl x) h t, e => by simp [allR] at e
theorem allD_rel {K : PySem.W.Frag} {I : Hp} : ∀ {vs : List V} {es : List EV} {ds : List PyData}, Paired (RelE K I) vs es → allD es = some ds → DpAll K I vs ds
  | _, _, _, .nil, e => by cases e; exact .nil
  | _, _, _, .cons (b := .d x) (l₂ := r) h t, e => by
    simp only [allD] at e
    cases q : allD r with
    | none => rw [q] at e; cases e
    | some l =>
      rw [q] at e
      cases e
      exact .cons h (allD_rel t q)
  | _, _, _, .cons (b := .r x) h t, e => by simp [allD] at e
  | _, _, _, .cons (b := .rl x) h t, e => by simp [allD] at e
theorem pv_tup {tl : TA} (h : PAs c tl ρ g fun es g1 => ∃ ds, allD es = some ds ∧ ds.length ≤ sizeLine ∧ P (.d (.tuple ds)) g1) : PV c (tTup tl) ρ g P := fun σ I H ok en Q k =>
  h σ I H ok en _ fun vs I1 H1 g1 es s1 ok1 r1 ⟨ds, e1, hz, p1⟩ => by
    have a := allD_rel r1 e1
    refine ⟨by rw [dpAll_len a]; exact hz, fun p hp => k _ (upd I1 p (.tup vs)) (upd H1 p (.tup vs)) g1 (.d (.tuple ds)) (s1.trans (Step.new ok1 hp)) (ok1.new hp) (.tup (.inl (.inl upd_same)) (dpAll_mono (Ex.new (ok1.free hp)) ds vs a)) p1⟩
theorem pv_lst {tl : TA} (h : PAs c tl ρ g fun es g1 => ∃ ds, allD es = some ds ∧ ds.length ≤ sizeLine ∧ P (.d (.list ds)) g1) : PV c (tLst tl) ρ g P := fun σ I H ok en Q k =>
  h σ I H ok en _ fun vs I1 H1 g1 es s1 ok1 r1 ⟨ds, e1, hz, p1⟩ => by
    have a := allD_rel r1 e1
    refine ⟨by rw [dpAll_len a]; exact hz, fun p hp => k _ (upd I1 p (.lst vs)) (upd H1 p (.lst vs)) g1 (.d (.list ds)) (s1.trans (Step.new ok1 hp)) (ok1.new hp) (.lst (.inl (.inl upd_same)) (dpAll_mono (Ex.new (ok1.free hp)) ds vs a)) p1⟩
theorem pv_lstR {tl : TA} (h : PAs c tl ρ g fun es g1 => ∃ ds, allR es = some ds ∧ ds.length ≤ sizeLine ∧ P (.rl ds) g1) : PV c (tLst tl) ρ g P := fun σ I H ok en Q k =>
  h σ I H ok en _ fun vs I1 H1 g1 es s1 ok1 r1 ⟨ds, e1, hz, p1⟩ => by
    have a := allR_rel r1 e1
    subst a
    exact ⟨hz, fun p hp => k _ (upd I1 p (.lst vs)) (upd H1 p (.lst vs)) g1 (.rl vs) (s1.trans (Step.new ok1 hp)) (ok1.new hp) ⟨p, rfl, .inl (.inl (.inl upd_same))⟩ p1⟩
theorem pv_lst2 {tl : TA} (h : PAs c tl ρ g fun es g1 => (∃ ds, allD es = some ds ∧ ds.length ≤ sizeLine ∧ P (.d (.list ds)) g1) ∨ ∃ ds, allR es = some ds ∧ ds.length ≤ sizeLine ∧ P (.rl ds) g1) : PV c (tLst tl) ρ g P := fun σ I H ok en Q k =>
  h σ I H ok en _ fun vs I1 H1 g1 es s1 ok1 r1 q => by
    rcases q with ⟨ds, e1, hz, p1⟩ | ⟨ds, e1, hz, p1⟩
    · have a := allD_rel r1 e1
      exact ⟨by rw [dpAll_len a]; exact hz, fun p hp => k _ (upd I1 p (.lst vs)) (upd H1 p (.lst vs)) g1 (.d (.list ds)) (s1.trans (Step.new ok1 hp)) (ok1.new hp) (.lst (.inl (.inl upd_same)) (dpAll_mono (Ex.new (ok1.free hp)) ds vs a)) p1⟩
    · have a := allR_rel r1 e1
      subst a
      exact ⟨hz, fun p hp => k _ (upd I1 p (.lst vs)) (upd H1 p (.lst vs)) g1 (.rl vs) (s1.trans (Step.new ok1 hp)) (ok1.new hp) ⟨p, rfl, .inl (.inl (.inl upd_same))⟩ p1⟩

/-! ### tests -/
theorem pb_test (h : PV c te ρ g fun e g1 => ∃ b, e = .d (.bool b) ∧ P' (.d (.bool b)) g1) : PB c (tTest te) ρ g fun b g1 => P' (.d (.bool b)) g1 := fun σ I H ok en Q k =>
  h σ I H ok en _ fun v I1 H1 g1 e s1 ok1 r1 ⟨b, e1, p1⟩ => by
    subst e1
    cases r1
    exact ⟨b, rfl, k b I1 H1 g1 s1 ok1 p1⟩
theorem pb_test' {P : Bool → c.S → Prop} (h : PV c te ρ g fun e g1 => ∃ b, e = .d (.bool b) ∧ P b g1) : PB c (tTest te) ρ g P := fun σ I H ok en Q k =>
  h σ I H ok en _ fun v I1 H1 g1 e s1 ok1 r1 ⟨b, e1, p1⟩ => by
    subst e1
    cases r1
    exact ⟨b, rfl, k b I1 H1 g1 s1 ok1 p1⟩
theorem pb_B {P : Bool → c.S → Prop} (h : PV c te ρ g fun e g1 => ∃ b, e = .d (.bool b) ∧ P b g1) : PB c (tB te) ρ g P := fun σ I H ok en Q k =>
  h σ I H ok en _ fun v I1 H1 g1 e s1 ok1 r1 ⟨b, e1, p1⟩ => by
    subst e1
    cases r1
    exact ⟨b, rfl, k b I1 H1 g1 s1 ok1 p1⟩
theorem pb_not {P : Bool → c.S → Prop} (h : PB c t ρ g fun b g1 => P (!b) g1) : PB c (tNot t) ρ g P := fun σ I H ok en Q k =>
  h σ I H ok en _ fun b I1 H1 g1 s1 ok1 p1 => k (!b) I1 H1 g1 s1 ok1 p1
theorem pb_and {P : Bool → c.S → Prop} (h : PB c t ρ g fun b g1 => if b = true then PB c u ρ g1 P else P false g1) : PB c (tAnd t u) ρ g P := fun σ I H ok en Q k =>
  h σ I H ok en _ fun b I1 H1 g1 s1 ok1 p1 => by
    cases b with
    | true => exact p1 σ I1 H1 ok1 (en.mono s1.im) Q fun b2 I2 H2 g2 s2 ok2 p2 => k b2 I2 H2 g2 (s1.trans s2) ok2 p2
    | false => exact k false I1 H1 g1 s1 ok1 p1
theorem pb_or {P : Bool → c.S → Prop} (h : PB c t ρ g fun b g1 => if b = true then P true g1 else PB c u ρ g1 P) : PB c (tOr t u) ρ g P := fun σ I H ok en Q k =>
  h σ I H ok en _ fun b I1 H1 g1 s1 ok1 p1 => by
    cases b with
    | true => exact k true I1 H1 g1 s1 ok1 p1
    | false => exact p1 σ I1 H1 ok1 (en.mono s1.im) Q fun b2 I2 H2 g2 s2 ok2 p2 => k b2 I2 H2 g2 (s1.trans s2) ok2 p2
/-- and, or, not as values: bools -/
theorem pv_and (h : PV c ta ρ g fun e g1 => ∃ b, e = .d (.bool b) ∧ if b = true then PV c tb ρ g1 P else P (.d (.bool false)) g1) : PV c (tAndV ta tb) ρ g P := fun σ I H ok en Q k =>
  h σ I H ok en _ fun v I1 H1 g1 e s1 ok1 r1 ⟨b, e1, p1⟩ => by
    subst e1
    cases r1
    refine ⟨b, rfl, ?_⟩
    cases b with
    | true => exact p1 σ I1 H1 ok1 (en.mono s1.im) Q fun b2 I2 H2 g2 e2 s2 ok2 r2 p2 => k b2 I2 H2 g2 e2 (s1.trans s2) ok2 r2 p2
    | false => exact k _ I1 H1 g1 (.d (.bool false)) s1 ok1 (Dp.bl false) p1
theorem pv_or (h : PV c ta ρ g fun e g1 => ∃ b, e = .d (.bool b) ∧ if b = true then P (.d (.bool true)) g1 else PV c tb ρ g1 P) : PV c (tOrV ta tb) ρ g P := fun σ I H ok en Q k =>
  h σ I H ok en _ fun v I1 H1 g1 e s1 ok1 r1 ⟨b, e1, p1⟩ => by
    subst e1
    cases r1
    refine ⟨b, rfl, ?_⟩
    cases b with
    | true => exact k _ I1 H1 g1 (.d (.bool true)) s1 ok1 (Dp.bl true) p1
    | false => exact p1 σ I1 H1 ok1 (en.mono s1.im) Q fun b2 I2 H2 g2 e2 s2 ok2 r2 p2 => k b2 I2 H2 g2 e2 (s1.trans s2) ok2 r2 p2
theorem pv_not (h : PV c ta ρ g fun e g1 => ∃ b, e = .d (.bool b) ∧ P (.d (.bool (!b))) g1) : PV c (tNotV ta) ρ g P := fun σ I H ok en Q k =>
  h σ I H ok en _ fun v I1 H1 g1 e s1 ok1 r1 ⟨b, e1, p1⟩ => by
    subst e1
    cases r1
    exact ⟨b, rfl, k _ I1 H1 g1 (.d (.bool (!b))) s1 ok1 (Dp.bl _) p1⟩
theorem pv_if (h : PB c t ρ g fun b g1 => if b = true then PV c ta ρ g1 P else PV c tb ρ g1 P) : PV c (tIf t ta tb) ρ g P := fun σ I H ok en Q k =>
  h σ I H ok en _ fun b I1 H1 g1 s1 ok1 p1 => by
    cases b with
    | true => exact p1 σ I1 H1 ok1 (en.mono s1.im) Q fun b2 I2 H2 g2 e2 s2 ok2 r2 p2 => k b2 I2 H2 g2 e2 (s1.trans s2) ok2 r2 p2
    | false => exact p1 σ I1 H1 ok1 (en.mono s1.im) Q fun b2 I2 H2 g2 e2 s2 ok2 r2 p2 => k b2 I2 H2 g2 e2 (s1.trans s2) ok2 r2 p2
theorem pv_chain {r r' : R2} (h : PV c ta ρ g fun x g1 => PV c tb ρ g1 fun y g2 => O2 c r x y g2 fun z g3 => ∃ b, z = .d (.bool b) ∧ if b = true then PV c tc ρ g3 fun w g4 => O2 c r' y w g4 P else P (.d (.bool false)) g3) : PV c (tChain r r' ta tb tc) ρ g P := fun σ I H ok en Q k =>
  h σ I H ok en _ fun v I1 H1 g1 x s1 ok1 r1 p1 => p1 σ I1 H1 ok1 (en.mono s1.im) _ fun u I2 H2 g2 y s2 ok2 r2 p2 =>
    p2 I2 H2 v u ok2 (r1.mono s2.im) r2 _ fun z I3 H3 g3 e s3 ok3 r3 ⟨b, e3, p3⟩ => by
      subst e3
      cases r3
      refine ⟨b, rfl, ?_⟩
      cases b with
      | true =>
        rw [if_pos rfl]
        refine p3 σ I3 H3 ok3 (en.mono ((s1.trans s2).trans s3).im) _ fun w I4 H4 g4 y4 s4 ok4 r4 p4 => ?_
        exact p4 I4 H4 u w ok4 (r2.mono (s3.trans s4).im) r4 Q fun z I5 H5 g5 e s5 ok5 r5 p5 => k z I5 H5 g5 e ((((s1.trans s2).trans s3).trans s4).trans s5) ok5 r5 p5
      | false => exact k _ I3 H3 g3 (.d (.bool false)) ((s1.trans s2).trans s3) ok3 (Dp.bl false) p3

/-! ### calls -/
/-- a promise over told values: F tells, of the ghost and the arguments, what holds of every result -/
def SpF (K : PySem.W.Frag) (F : (c : Ctx) → c.S → List EV → (EV → c.S → Prop) → Prop) : Sp := fun vs H Q _ => ∃ (c : Ctx) (I : Hp) (g : c.S) (es : List EV) (P : EV → c.S → Prop), c.K = K ∧ Ok c I H g ∧ Paired (RelE K I) vs es ∧ F c g es P ∧ End c I H g P Q
theorem pv_call {F : (c : Ctx) → c.S → List EV → (EV → c.S → Prop) → Prop} {E : XK} {tl : TA} (h : PAs c tl ρ g fun es g1 => F c g1 es P) : PV c (tCall (SpF c.K F) [] E tl) ρ g P := fun σ I H ok en Q k =>
  h σ I H ok en _ fun vs I1 H1 g1 es s1 ok1 r1 p1 => by
    show SpF c.K F (vs ++ []) H1 Q E
    rw [List.append_nil]
    exact ⟨c, I1, g1, es, P, rfl, ok1, r1, p1, fun v I2 H2 g2 e s2 ok2 r2 p2 => k v I2 H2 g2 e (s1.trans s2) ok2 r2 p2⟩
theorem pv_cb {r : List V → Hp → VK → Prop} {tl : TA} (h : PAs c tl ρ g fun es g1 => OC c r es g1 P) : PV c (tCB r tl) ρ g P := fun σ I H ok en Q k =>
  h σ I H ok en _ fun vs I1 H1 g1 es s1 ok1 r1 p1 => p1 I1 H1 vs ok1 r1 Q fun v I2 H2 g2 e s2 ok2 r2 p2 => k v I2 H2 g2 e (s1.trans s2) ok2 r2 p2
theorem pp_none {P : Option Int → c.S → Prop} (p : P none g) : PPart c tNoPart ρ g P := fun σ I H ok en Q k => k none I H g Step.refl ok p
theorem pp_some {P : Option Int → c.S → Prop} (h : PV c te ρ g fun e g1 => ∃ i, e = .d (.int i) ∧ P (some i) g1) : PPart c (tPart te) ρ g P := fun σ I H ok en Q k =>
  h σ I H ok en _ fun v I1 H1 g1 e s1 ok1 r1 ⟨i, e1, p1⟩ => by
    subst e1
    cases r1
    exact ⟨i, rfl, k (some i) I1 H1 g1 s1 ok1 p1⟩
theorem pv_sl {r : V → Option Int → Option Int → Hp → VK → Prop} {tl th : TO} (h : PV c te ρ g fun x g1 => PPart c tl ρ g1 fun lo g2 => PPart c th ρ g2 fun hi g3 => OSl c r x lo hi g3 P) : PV c (tSl r te tl th) ρ g P := fun σ I H ok en Q k =>
  h σ I H ok en _ fun v I1 H1 g1 x s1 ok1 r1 p1 => p1 σ I1 H1 ok1 (en.mono s1.im) _ fun lo I2 H2 g2 s2 ok2 p2 => p2 σ I2 H2 ok2 (en.mono (s1.trans s2).im) _ fun hi I3 H3 g3 s3 ok3 p3 =>
    p3 I3 H3 v ok3 (r1.mono (s2.trans s3).im) Q fun z I4 H4 g4 e s4 ok4 r4 p4 => k z I4 H4 g4 e (((s1.trans s2).trans s3).trans s4) ok4 r4 p4
end

/-! ### statements -/
section
variable (c : Ctx)
def PSt (t : TS) (ρ : Rho) (g : c.S) (Pn : Rho → c.S → Prop) (Pr : EV → c.S → Prop) : Prop := ∀ σ I H, Ok c I H g → EnvOk c.K I σ ρ → ∀ D : Ends,
  (∀ σ' I' H' g' ρ', Step c I H g I' H' g' → Ok c I' H' g' → EnvOk c.K I' σ' ρ' → Pn ρ' g' → D.nx σ' H') → End c I H g Pr D.rt → t D σ H
end
section
variable {c : Ctx} {ρ : Rho} {g : c.S} {Pn : Rho → c.S → Prop} {Pr : EV → c.S → Prop} {te ta tb : TE} {t u : TS} {tc : TT}
theorem ps_seq (h : PSt c t ρ g (fun ρ1 g1 => PSt c u ρ1 g1 Pn Pr) Pr) : PSt c (tSeq t u) ρ g Pn Pr := fun σ I H ok en D kn kr =>
  h σ I H ok en { D with nx := u D } (fun σ1 I1 H1 g1 ρ1 s1 ok1 en1 p1 => p1 σ1 I1 H1 ok1 en1 D (fun σ2 I2 H2 g2 ρ2 s2 ok2 en2 p2 => kn σ2 I2 H2 g2 ρ2 (s1.trans s2) ok2 en2 p2) fun v I2 H2 g2 e s2 ok2 r2 p2 => kr v I2 H2 g2 e (s1.trans s2) ok2 r2 p2) kr
theorem ps_next (p : Pn ρ g) : PSt c tNext ρ g Pn Pr := fun σ I H ok en D kn kr => kn σ I H g ρ Step.refl ok en p
theorem ps_ret (h : PV c te ρ g Pr) : PSt c (tRet te) ρ g Pn Pr := fun σ I H ok en D kn kr => h σ I H ok en D.rt kr
theorem ps_set {i : Nat} (h : PV c te ρ g fun e g1 => Pn (ρ.set i (some e)) g1) : PSt c (tAsg te (gName i)) ρ g Pn Pr := fun σ I H ok en D kn kr =>
  h σ I H ok en _ fun v I1 H1 g1 e s1 ok1 r1 p1 => kn _ I1 H1 g1 _ s1 ok1 ((en.mono s1.im).set i r1) p1
theorem ps_drop (h : PV c te ρ g fun e g1 => Pn ρ g1) : PSt c (tDrop te) ρ g Pn Pr := fun σ I H ok en D kn kr =>
  h σ I H ok en _ fun v I1 H1 g1 e s1 ok1 r1 p1 => kn _ I1 H1 g1 _ s1 ok1 (en.mono s1.im) p1
theorem ps_if (h : PB c tc ρ g fun b g1 => if b = true then PSt c t ρ g1 Pn Pr else PSt c u ρ g1 Pn Pr) : PSt c (tIfS tc t u) ρ g Pn Pr := fun σ I H ok en D kn kr =>
  h σ I H ok en _ fun b I1 H1 g1 s1 ok1 p1 => by
    cases b with
    | true => exact p1 σ I1 H1 ok1 (en.mono s1.im) D (fun σ2 I2 H2 g2 ρ2 s2 ok2 en2 p2 => kn σ2 I2 H2 g2 ρ2 (s1.trans s2) ok2 en2 p2) fun v I2 H2 g2 e s2 ok2 r2 p2 => kr v I2 H2 g2 e (s1.trans s2) ok2 r2 p2
    | false => exact p1 σ I1 H1 ok1 (en.mono s1.im) D (fun σ2 I2 H2 g2 ρ2 s2 ok2 en2 p2 => kn σ2 I2 H2 g2 ρ2 (s1.trans s2) ok2 en2 p2) fun v I2 H2 g2 e s2 ok2 r2 p2 => kr v I2 H2 g2 e (s1.trans s2) ok2 r2 p2
theorem PSt.imp {Pn' : Rho → c.S → Prop} (h : PSt c t ρ g Pn' Pr) (i : ∀ r g2, Pn' r g2 → Pn r g2) : PSt c t ρ g Pn Pr := fun σ I H ok en D kn kr =>
  h σ I H ok en D (fun σ2 I2 H2 g2 ρ2 s2 ok2 en2 p2 => kn σ2 I2 H2 g2 ρ2 s2 ok2 en2 (i _ _ p2)) kr
end
end Dl

set_option Elab.async false
set_option linter.all false
set_option maxRecDepth 100000
set_option maxHeartbeats 4000000
namespace Dl
open PySem PySem.Spec PyProof.Rows L2 PySem.PyData

/-! ### sizes of data -/
mutual
def fit : PyData → Bool
  | .str x => decide (x.length ≤ 1000000) && strOk x
  | .list xs => decide (xs.length ≤ 1000000) && fitAll xs
  | .tuple xs => decide (xs.length ≤ 1000000) && fitAll xs
  | .dict _ => false
  | .int i => decide (-(2 ^ 61) ≤ i) && decide (i ≤ 2 ^ 61)
  | _ => true
def fitAll : List PyData → Bool
  | [] => true
  | x :: xs => fit x && fitAll xs
end
theorem fitAll_mem : ∀ {xs : List PyData} {x : PyData}, fitAll xs = true → x ∈ xs → fit x = true
  | [], _, _, h => by cases h
  | y :: ys, x, h, m => by
    rw [fitAll, Bool.and_eq_true] at h
    rcases List.mem_cons.mp m with e | m
    · rw [e]; exact h.1
    · exact fitAll_mem h.2 m
theorem fitAll_of : ∀ {xs : List PyData}, (∀ x ∈ xs, fit x = true) → fitAll xs = true
  | [], _ => by rw [fitAll]
  | y :: ys, h => by
    rw [fitAll, Bool.and_eq_true]
    exact ⟨h y List.mem_cons_self, fitAll_of fun x m => h x (List.mem_cons_of_mem _ m)⟩
theorem fitAll_iff {xs : List PyData} : fitAll xs = true ↔ ∀ x ∈ xs, fit x = true := ⟨fun h x m => fitAll_mem h m, fitAll_of⟩
theorem fit_tup {xs : List PyData} : fit (.tuple xs) = true ↔ xs.length ≤ 1000000 ∧ ∀ x ∈ xs, fit x = true := by
  rw [fit, Bool.and_eq_true, decide_eq_true_eq, fitAll_iff]
theorem fit_lst {xs : List PyData} : fit (.list xs) = true ↔ xs.length ≤ 1000000 ∧ ∀ x ∈ xs, fit x = true := by
  rw [fit, Bool.and_eq_true, decide_eq_true_eq, fitAll_iff]
theorem fit_int {i : Int} : fit (.int i) = true ↔ -(2 ^ 61) ≤ i ∧ i ≤ 2 ^ 61 := by rw [fit, Bool.and_eq_true, decide_eq_true_eq, decide_eq_true_eq]
theorem fit_str {x : Str} : fit (.str x) = true ↔ x.length ≤ 1000000 ∧ strOk x = true := by
  rw [fit, Bool.and_eq_true, decide_eq_true_eq]
mutual
theorem lay_of_fit : ∀ d : PyData, fit d = true → d.canLay0 = true
  | .none, _ => by simp only [PyData.canLay0]
  | .bool _, _ => by simp only [PyData.canLay0]
  | .int _, _ => by simp only [PyData.canLay0]
  | .str x, h => by rw [PyData.canLay0]; exact (fit_str.mp h).2
  | .list xs, h => by
    rw [fit, Bool.and_eq_true] at h
    rw [PyData.canLay0]; exact layAll_of_fit xs h.2
  | .tuple xs, h => by
    rw [fit, Bool.and_eq_true] at h
    rw [PyData.canLay0]; exact layAll_of_fit xs h.2
  | .dict _, h => by simp [fit] at h
theorem layAll_of_fit : ∀ xs : List PyData, fitAll xs = true → PyData.canLayAll0 xs = true
  | [], _ => by rw [PyData.canLayAll0]
  | x :: xs, h => by
    rw [fitAll, Bool.and_eq_true] at h
    rw [PyData.canLayAll0, lay_of_fit x h.1, layAll_of_fit xs h.2]; rfl
end
theorem shaped_of {d : PyData} (h : fit d = true) (k : d.depth ≤ 64) : SeqAt.shaped d = true := by
  show (d.canLay0 && decide (d.depth ≤ 64)) = true
  rw [lay_of_fit d h, decide_eq_true k]; rfl
theorem million : (1000000 : Nat) ≤ sizeLine := by rw [sizeLine_eq]; decide
theorem le_line {n : Nat} (h : n ≤ 1000000) : n ≤ sizeLine := Nat.le_trans h million

/-! ### kinds -/
def tyN : PyData → String
  | .none => "NoneType" | .bool _ => "bool" | .int _ => "int" | .str _ => "str" | .list _ => "list" | .tuple _ => "tuple" | .dict _ => "dict"
theorem tyx_of {K : PySem.W.Frag} {H : Hp} : ∀ {d : PyData} {v : V}, Dp K H v d → TyX K H v (.type (tyN d))
  | .none, _, h => by cases h; exact .base .non
  | .bool b, _, h => by cases h; exact .base (.bl b)
  | .int i, _, h => by cases h; exact .base (.int i)
  | .str x, _, h => by cases h; exact .base (.str x)
  | .list ds, _, h => by
    cases h with
    | lst h1 h2 =>
      rcases h1 with (h1 | ⟨o, h1⟩) | ⟨o, its, n, h1, hc, _⟩
      · exact .base (.lst h1)
      · exact .base (.frz h1)
      · exact .kList h1 hc
  | .tuple ds, _, h => by
    cases h with
    | tup h1 h2 =>
      rcases h1 with (h1 | ⟨o, h1⟩) | ⟨o, its, n, h1, hc, _⟩
      · exact .base (.tup h1)
      · exact .fTuple h1
      · exact .kTuple h1 hc
  | .dict _, _, h => by cases h
def isInt : PyData → Bool | .int _ => true | .bool _ => true | _ => false
def isBool : PyData → Bool | .bool _ => true | _ => false
def isStr : PyData → Bool | .str _ => true | _ => false
def isTup : PyData → Bool | .tuple _ => true | _ => false
def isLst : PyData → Bool | .list _ => true | _ => false
def isT (T : String) (d : PyData) : Option Bool := kitB (tyN d) T
theorem isT_int : ∀ d : PyData, isT "int" d = some (isInt d)
  | .none => (by decide +kernel : kitB "NoneType" "int" = some false)
  | .bool _ => (by decide +kernel : kitB "bool" "int" = some true)
  | .int _ => (by decide +kernel : kitB "int" "int" = some true)
  | .str _ => (by decide +kernel : kitB "str" "int" = some false)
  | .list _ => (by decide +kernel : kitB "list" "int" = some false)
  | .tuple _ => (by decide +kernel : kitB "tuple" "int" = some false)
  | .dict _ => (by decide +kernel : kitB "dict" "int" = some false)
theorem isT_bool : ∀ d : PyData, isT "bool" d = some (isBool d)
  | .none => (by decide +kernel : kitB "NoneType" "bool" = some false)
  | .bool _ => (by decide +kernel : kitB "bool" "bool" = some true)
  | .int _ => (by decide +kernel : kitB "int" "bool" = some false)
  | .str _ => (by decide +kernel : kitB "str" "bool" = some false)
  | .list _ => (by decide +kernel : kitB "list" "bool" = some false)
  | .tuple _ => (by decide +kernel : kitB "tuple" "bool" = some false)
  | .dict _ => (by decide +kernel : kitB "dict" "bool" = some false)
theorem isT_str : ∀ d : PyData, isT "str" d = some (isStr d)
  | .none => (by decide +kernel : kitB "NoneType" "str" = some false)
  | .bool _ => (by decide +kernel : kitB "bool" "str" = some false)
  | .int _ => (by decide +kernel : kitB "int" "str" = some false)
  | .str _ => (by decide +kernel : kitB "str" "str" = some true)
  | .list _ => (by decide +kernel : kitB "list" "str" = some false)
  | .tuple _ => (by decide +kernel : kitB "tuple" "str" = some false)
  | .dict _ => (by decide +kernel : kitB "dict" "str" = some false)
theorem isT_tuple : ∀ d : PyData, isT "tuple" d = some (isTup d)
  | .none => (by decide +kernel : kitB "NoneType" "tuple" = some false)
  | .bool _ => (by decide +kernel : kitB "bool" "tuple" = some false)
  | .int _ => (by decide +kernel : kitB "int" "tuple" = some false)
  | .str _ => (by decide +kernel : kitB "str" "tuple" = some false)
  | .list _ => (by decide +kernel : kitB "list" "tuple" = some false)
  | .tuple _ => (by decide +kernel : kitB "tuple" "tuple" = some true)
  | .dict _ => (by decide +kernel : kitB "dict" "tuple" = some false)
theorem isT_list : ∀ d : PyData, isT "list" d = some (isLst d)
  | .none => (by decide +kernel : kitB "NoneType" "list" = some false)
  | .bool _ => (by decide +kernel : kitB "bool" "list" = some false)
  | .int _ => (by decide +kernel : kitB "int" "list" = some false)
  | .str _ => (by decide +kernel : kitB "str" "list" = some false)
  | .list _ => (by decide +kernel : kitB "list" "list" = some true)
  | .tuple _ => (by decide +kernel : kitB "tuple" "list" = some false)
  | .dict _ => (by decide +kernel : kitB "dict" "list" = some false)

section
variable {c : Ctx} {ρ : Rho} {g : c.S} {P P' : EV → c.S → Prop} {te ta tb tc : TE} {t u : TT} {I H : Hp} {Q : VK}
theorem cr_isi {X : Cx} {K : PySem.W.Frag} (e : X.K = K := by rfl) : CallR X (.builtin "isinstance") (rIsi K) := by subst e; exact call_isi
theorem cr_isiT {X : Cx} {K : PySem.W.Frag} (e : X.K = K := by rfl) : CallR X (.builtin "isinstance") (rIsiT K) := by subst e; exact call_isiT
theorem oc_isi {d : PyData} {T : String} {b : Bool} (h : isT T d = some b) (p : P (.d (.bool b)) g) : OC c (rIsi c.K) [.d d, .r (.ty T)] g P := fun I H vs ok r Q k => by
  cases r with
  | cons r1 r =>
    cases r with
    | cons r2 r =>
      cases r
      cases r2
      exact ⟨_, _, _, _, b, rfl, .ty T, tyx_of (dp_of ok r1), kit_ty h, k.here (e := .d (.bool b)) ok (Dp.bl b) p⟩
theorem kitAny2 {K : PySem.W.Frag} {a A B : String} {x y : Bool} (h1 : kitB a A = some x) (h2 : kitB a B = some y) : PySem.W.kitAny K (.type a) [.type A, .type B] = some (x || y) := by
  refine kitAny_cons (kit_ty h1) (fun e => ?_) (fun e => by rw [e]; rfl)
  rw [e, Bool.false_or]
  exact kitAny_cons (kit_ty h2) (fun e => by rw [e]; exact kitAny_nil) (fun e => e)
theorem pv_isi2 {A B : String} (h : PV c te ρ g fun x g1 => ∃ d a b, x = .d d ∧ isT A d = some a ∧ isT B d = some b ∧ P (.d (.bool (a || b))) g1) :
    PV c (tCB (rIsiT c.K) (tCons te (tCons (tTup (tCons (tC (.ty A)) (tCons (tC (.ty B)) tNil))) tNil))) ρ g P := fun σ I H ok en Q k =>
  h σ I H ok en _ fun v I1 H1 g1 e s1 ok1 r1 ⟨d, a, b, e1, ha, hb, p1⟩ => by
    subst e1
    refine ⟨by show 2 ≤ sizeLine; exact le_line (by decide), fun p hp => ?_⟩
    have ok2 := ok1.grow (o := .tup [.ty A, .ty B]) hp
    exact ⟨v, p, _, _, _, _, rfl, upd_same, .cons (.ty A) (.cons (.ty B) .nil), tyx_of (dp_of ok2 r1), kitAny2 ha hb, k _ _ _ g1 (.d (.bool (a || b))) (s1.trans (Step.grow hp)) ok2 (Dp.bl _) p1⟩

/-! ### arithmetic -/
theorem o_ii {f : Int → Int → Int} {i j : Int} (p : P (.d (.int (f i j))) g) : O2 c (rI0 fun i j => .int (f i j)) (.d (.int i)) (.d (.int j)) g P := fun I H xv yv ok rx ry Q k => by
  cases rx; cases ry
  exact ⟨i, j, rfl, rfl, k.here (e := .d (.int (f i j))) ok (Dp.int _) p⟩
theorem o_ib {f : Int → Int → Bool} {i j : Int} (p : P (.d (.bool (f i j))) g) : O2 c (rI0 fun i j => .bl (f i j)) (.d (.int i)) (.d (.int j)) g P := fun I H xv yv ok rx ry Q k => by
  cases rx; cases ry
  exact ⟨i, j, rfl, rfl, k.here (e := .d (.bool (f i j))) ok (Dp.bl _) p⟩
theorem o_iic {C : Int → Int → Prop} {f : Int → Int → Int} {i j : Int} (h : C i j) (p : P (.d (.int (f i j))) g) : O2 c (rI C fun i j => .int (f i j)) (.d (.int i)) (.d (.int j)) g P := fun I H xv yv ok rx ry Q k => by
  cases rx; cases ry
  exact ⟨i, j, rfl, rfl, h, k.here (e := .d (.int (f i j))) ok (Dp.int _) p⟩
def zAdd (K : PySem.W.Frag) : R2 := fun x y H Q => (rI0 fun i j => .int (i + j)) x y H Q ∨ (∃ i j, x = .str i ∧ y = .str j ∧ i.length + j.length ≤ sizeLine ∧ Q (.str (i ++ j)) H) ∨ rCatA K x y H Q ∨ rCat x y H Q
theorem op_zadd {X : Cx} {K : PySem.W.Frag} (e : X.K = K := by rfl) : OpR X (binaryOp .Add) (zAdd K) := by subst e; exact op_add.or (op_add_str.or (op_catA.or op_cat))
theorem o_add {i j : Int} (p : P (.d (.int (i + j))) g) : O2 c (zAdd c.K) (.d (.int i)) (.d (.int j)) g P := fun I H xv yv ok rx ry Q k =>
  .inl (o_ii (f := fun i j => i + j) p I H xv yv ok rx ry Q k)
theorem o_addS {i j : Str} (hz : i.length + j.length ≤ sizeLine) (p : P (.d (.str (i ++ j))) g) : O2 c (zAdd c.K) (.d (.str i)) (.d (.str j)) g P := fun I H xv yv ok rx ry Q k => by
  cases rx; cases ry
  exact .inr (.inl ⟨i, j, rfl, rfl, hz, k.here (e := .d (.str (i ++ j))) ok (Dp.str _) p⟩)
theorem o_addT {ds es : List PyData} (hz : ds.length + es.length ≤ sizeLine) (p : P (.d (.tuple (ds ++ es))) g) : O2 c (zAdd c.K) (.d (.tuple ds)) (.d (.tuple es)) g P := fun I H xv yv ok rx ry Q k => by
  cases rx with
  | @tup a xs _ hx ax =>
    cases ry with
    | @tup b ys _ hy ay =>
      refine .inr (.inr (.inl ⟨a, b, xs, ys, rfl, rfl, ok.ex.seqT hx, ok.ex.seqT hy, by rw [dpAll_len ax, dpAll_len ay]; exact hz, fun e => ?_, fun _ e => ?_, fun _ _ q hq => ?_⟩))
      · subst e
        cases ax
        exact k.here (e := .d (.tuple ([] ++ es))) ok (Dp.tup hy ay) p
      · subst e
        cases ay
        rw [List.append_nil] at p
        exact k.here (e := .d (.tuple ds)) ok (Dp.tup hx ax) p
      · exact k _ (upd I q (.tup (xs ++ ys))) _ g (.d (.tuple (ds ++ es))) (Step.new ok hq) (ok.new hq) (Dp.tup (.inl (.inl upd_same)) (dpAll_mono (Ex.new (ok.free hq)) _ _ (dpAll_append ax ay))) p

/-! ### comparisons -/
def zEq (K : PySem.W.Frag) : R2 := fun x y H Q => rEq x y H Q ∨ rEqD K x y H Q
theorem op_zeq {X : Cx} {K : PySem.W.Frag} (hu : X.A.units + 64 < cLine) (e : X.K = K := by rfl) : OpR X (compareOp .Eq) (zEq K) := by subst e; exact op_eq.or (op_eqD hu)
def zNe (K : PySem.W.Frag) : R2 := fun x y H Q => rNe x y H Q ∨ rNeD K x y H Q
theorem op_zne {X : Cx} {K : PySem.W.Frag} (hu : X.A.units + 64 < cLine) (e : X.K = K := by rfl) : OpR X (compareOp .NotEq) (zNe K) := by subst e; exact op_ne.or (op_neD hu)
theorem o_eq {d e : PyData} (hd : fit d = true) (he : fit e = true) (kd : d.depth ≤ 64) (ke : e.depth ≤ 64) (p : P (.d (.bool (PyData.eqv d e))) g) : O2 c (zEq c.K) (.d d) (.d e) g P := fun I H xv yv ok rx ry Q k =>
  .inr ⟨d, e, dp_of ok rx, dp_of ok ry, shaped_of hd kd, shaped_of he ke, k.here (e := .d (.bool (PyData.eqv d e))) ok (Dp.bl _) p⟩
theorem o_ne {d e : PyData} (hd : fit d = true) (he : fit e = true) (kd : d.depth ≤ 64) (ke : e.depth ≤ 64) (p : P (.d (.bool (!PyData.eqv d e))) g) : O2 c (zNe c.K) (.d d) (.d e) g P := fun I H xv yv ok rx ry Q k =>
  .inr ⟨d, e, dp_of ok rx, dp_of ok ry, shaped_of hd kd, shaped_of he ke, k.here (e := .d (.bool (!PyData.eqv d e))) ok (Dp.bl _) p⟩
theorem o_eqI {i j : Int} (p : P (.d (.bool (decide (i = j)))) g) : O2 c (zEq c.K) (.d (.int i)) (.d (.int j)) g P := fun I H xv yv ok rx ry Q k => by
  cases rx; cases ry
  have e : decide (V.int i = V.int j) = decide (i = j) := by simp
  exact .inl ⟨rfl, by rw [e]; exact k.here (e := .d (.bool (decide (i = j)))) ok (Dp.bl _) p⟩
theorem o_eqS {i j : Str} (p : P (.d (.bool (decide (i = j)))) g) : O2 c (zEq c.K) (.d (.str i)) (.d (.str j)) g P := fun I H xv yv ok rx ry Q k => by
  cases rx; cases ry
  have e : decide (V.str i = V.str j) = decide (i = j) := by simp
  exact .inl ⟨rfl, by rw [e]; exact k.here (e := .d (.bool (decide (i = j)))) ok (Dp.bl _) p⟩
theorem o_eqB {i j : Bool} (p : P (.d (.bool (decide (i = j)))) g) : O2 c (zEq c.K) (.d (.bool i)) (.d (.bool j)) g P := fun I H xv yv ok rx ry Q k => by
  cases rx; cases ry
  have e : decide (V.bl i = V.bl j) = decide (i = j) := by simp
  exact .inl ⟨rfl, by rw [e]; exact k.here (e := .d (.bool (decide (i = j)))) ok (Dp.bl _) p⟩
theorem o_neI {i j : Int} (p : P (.d (.bool (!decide (i = j)))) g) : O2 c (zNe c.K) (.d (.int i)) (.d (.int j)) g P := fun I H xv yv ok rx ry Q k => by
  cases rx; cases ry
  have e : decide (V.int i = V.int j) = decide (i = j) := by simp
  exact .inl ⟨rfl, by rw [e]; exact k.here (e := .d (.bool (!decide (i = j)))) ok (Dp.bl _) p⟩
theorem o_neB {i j : Bool} (p : P (.d (.bool (!decide (i = j)))) g) : O2 c (zNe c.K) (.d (.bool i)) (.d (.bool j)) g P := fun I H xv yv ok rx ry Q k => by
  cases rx; cases ry
  have e : decide (V.bl i = V.bl j) = decide (i = j) := by simp
  exact .inl ⟨rfl, by rw [e]; exact k.here (e := .d (.bool (!decide (i = j)))) ok (Dp.bl _) p⟩
def zLeS : R2 := fun x y H Q => ∃ i j, x = .str i ∧ y = .str j ∧ Q (.bl (!decide (j.cps.toList < i.cps.toList))) H
def zLe : R2 := fun x y H Q => (rI0 fun i j => .bl (decide (i ≤ j))) x y H Q ∨ zLeS x y H Q
theorem op_zle {X : Cx} : OpR X (compareOp .LtE) zLe := op_le.or op_le_str
theorem o_le {i j : Int} (p : P (.d (.bool (decide (i ≤ j)))) g) : O2 c zLe (.d (.int i)) (.d (.int j)) g P := fun I H xv yv ok rx ry Q k =>
  .inl (o_ib (f := fun i j => decide (i ≤ j)) p I H xv yv ok rx ry Q k)
theorem o_leS {i j : Str} (p : P (.d (.bool (!decide (j.cps.toList < i.cps.toList)))) g) : O2 c zLe (.d (.str i)) (.d (.str j)) g P := fun I H xv yv ok rx ry Q k => by
  cases rx; cases ry
  exact .inr ⟨i, j, rfl, rfl, k.here (e := .d (.bool _)) ok (Dp.bl _) p⟩
/-- a < b: whole numbers, or data that are alike -/
def rLtD (K : PySem.W.Frag) : R2 := fun x y H Q => ∃ d e, Dp K H x d ∧ Dp K H y e ∧ PySem.W.alike d e = true ∧ d ≠ .none ∧ min d.depth e.depth ≤ 60 ∧ Q (.bl (PySem.W.dataLt d e)) H
theorem op_ltD {X : Cx} (hu : X.A.units + 64 < cLine) : OpR X (compareOp .Lt) (rLtD X.K) := by
  intro pins s σ H x y v u Q I rx ry h
  obtain ⟨d, e, hd, he, al, hn, hm, q⟩ := h
  obtain ⟨as, r1⟩ := Dp.reads I d x v hd rx
  obtain ⟨bs, r2⟩ := Dp.reads I e y u he ry
  exact PySem.W.rcLt_alike d e _ _ _ _ as bs r1 r2 al hn (by omega) _ _ _ _ ⟨.bl _, H, I, rfl, q⟩
end
end Dl

set_option Elab.async false
set_option linter.all false
set_option maxRecDepth 100000
set_option maxHeartbeats 4000000
namespace Dl
open PySem PySem.Spec PyProof.Rows L2
section
variable {c : Ctx} {ρ : Rho} {g : c.S} {P P' : EV → c.S → Prop} {te ta tb tc : TE} {t u : TT} {I H : Hp} {Q : VK}
def zLt (K : PySem.W.Frag) : R2 := fun x y H Q => (rI0 fun i j => .bl (decide (i < j))) x y H Q ∨ rLtD K x y H Q
theorem op_zlt {X : Cx} {K : PySem.W.Frag} (hu : X.A.units + 64 < cLine) (e : X.K = K := by rfl) : OpR X (compareOp .Lt) (zLt K) := by subst e; exact op_lt.or (op_ltD hu)
theorem o_lt {i j : Int} (p : P (.d (.bool (decide (i < j)))) g) : O2 c (zLt c.K) (.d (.int i)) (.d (.int j)) g P := fun I H xv yv ok rx ry Q k =>
  .inl (o_ib (f := fun i j => decide (i < j)) p I H xv yv ok rx ry Q k)
theorem o_ltD {d e : PyData} (h : PySem.W.alike d e = true) (hn : d ≠ .none) (hm : min d.depth e.depth ≤ 60) (p : P (.d (.bool (PySem.W.dataLt d e))) g) : O2 c (zLt c.K) (.d d) (.d e) g P := fun I H xv yv ok rx ry Q k =>
  .inr ⟨d, e, dp_of ok rx, dp_of ok ry, h, hn, hm, k.here (e := .d (.bool _)) ok (Dp.bl _) p⟩
theorem o_isN {d : PyData} {b : Bool} (h : (match d with | .none => true | _ => false) = b) (p : P (.d (.bool b)) g) : O2 c (fun x y H Q => y = .non ∧ Q (.bl (decide (x = .non))) H) (.d d) (.d .none) g P := fun I H xv yv ok rx ry Q k => by
  cases ry
  refine ⟨rfl, ?_⟩
  have e : decide (xv = .non) = b := by
    subst h
    cases d <;> cases rx <;> simp
  rw [e]
  exact k.here (e := .d (.bool b)) ok (Dp.bl _) p
theorem o_notN {d : PyData} {b : Bool} (h : (match d with | .none => false | _ => true) = b) (p : P (.d (.bool b)) g) : O2 c (fun x y H Q => y = .non ∧ Q (.bl (!decide (x = .non))) H) (.d d) (.d .none) g P := fun I H xv yv ok rx ry Q k => by
  cases ry
  refine ⟨rfl, ?_⟩
  have e : (!decide (xv = .non)) = b := by
    subst h
    cases d <;> cases rx <;> simp
  rw [e]
  exact k.here (e := .d (.bool b)) ok (Dp.bl _) p
/-- a sign in a text; a text that may be longer -/
def zInS : R2 := fun x y H Q => ∃ (c : Nat) (z : Str), x = .str ⟨#[c]⟩ ∧ y = .str z ∧ Q (.bl (decide (c ∈ z.cps.toList))) H
theorem op_zinS {X : Cx} : OpR X (compareOp .In) zInS := op_in_sign
theorem o_inS {n : Nat} {z : Str} (p : P (.d (.bool (decide (n ∈ z.cps.toList)))) g) : O2 c zInS (.d (.str ⟨#[n]⟩)) (.d (.str z)) g P := fun I H xv yv ok rx ry Q k => by
  cases rx; cases ry
  exact ⟨n, z, rfl, rfl, k.here (e := .d (.bool _)) ok (Dp.bl _) p⟩

/-! ### items, slices -/
def zIx (K : PySem.W.Frag) (w : World) : R2 := fun x y H Q => rIx K x y H Q ∨ rIxD K w x y H Q
theorem ix_z {X : Cx} {K : PySem.W.Frag} {w : World} (e : X.K = K := by rfl) (e2 : X.w = w := by rfl) : IxR X (zIx K w) := by subst e e2; exact ix_seq.or ix_kdict
variable {w : World}
theorem dpAll_at {K : PySem.W.Frag} {H : Hp} {ds : List PyData} {vs : List V} {i : Int} {d : PyData} (h : DpAll K H vs ds) (e : atI ds i = some d) : ∃ v, atI vs i = some v ∧ Dp K H v d := by
  unfold atI at e ⊢
  rw [dpAll_len h]
  cases q : ixN ds.length i with
  | none => rw [q] at e; cases e
  | some j =>
    rw [q] at e
    exact dpAll_get h e
theorem at0 {α : Type} {x : α} {xs : List α} : atI (x :: xs) 0 = some x := atI_nat (j := 0) rfl
theorem at1 {α : Type} {x y : α} {xs : List α} : atI (x :: y :: xs) 1 = some y := atI_nat (j := 1) rfl
theorem o_ixT {ds : List PyData} {i : Int} {d : PyData} (e : atI ds i = some d) (p : P (.d d) g) : O2 c (zIx c.K w) (.d (.tuple ds)) (.d (.int i)) g P := fun I H xv yv ok rx ry Q k => by
  cases ry
  cases rx with
  | @tup a xs _ hx ax =>
    obtain ⟨v, e1, r⟩ := dpAll_at ax e
    exact .inl (.inr (.inl ⟨a, xs, i, v, rfl, rfl, ok.ex.seqT hx, e1, k.here (e := .d d) ok r p⟩))
theorem o_ixL {ds : List PyData} {i : Int} {d : PyData} (e : atI ds i = some d) (p : P (.d d) g) : O2 c (zIx c.K w) (.d (.list ds)) (.d (.int i)) g P := fun I H xv yv ok rx ry Q k => by
  cases ry
  cases rx with
  | @lst a xs _ hx ax =>
    obtain ⟨v, e1, r⟩ := dpAll_at ax e
    exact .inl (.inl ⟨a, xs, i, v, rfl, rfl, ok.ex.seqL hx, e1, k.here (e := .d d) ok r p⟩)
theorem o_ixS {z : Str} {i : Int} {n : Nat} (hz : z.length ≤ sizeLine) (e : atI z.cps.toList i = some n) (p : P (.d (.str ⟨#[n]⟩)) g) : O2 c (zIx c.K w) (.d (.str z)) (.d (.int i)) g P := fun I H xv yv ok rx ry Q k => by
  cases ry; cases rx
  exact .inl (.inr (.inr ⟨z, i, n, rfl, rfl, hz, e, k.here (e := .d (.str _)) ok (Dp.str _) p⟩))
theorem o_ixD {a : Addr} {z : Str} {v : V} (h : KDct c.K w a z v) (p : P (.r v) g) : O2 c (zIx c.K w) (.r (.ref a)) (.d (.str z)) g P := fun I H xv yv ok rx ry Q k => by
  cases ry; cases rx
  exact .inr ⟨a, z, v, rfl, rfl, h, k.here (e := .r v) ok rfl p⟩
theorem o_ixDT {a t : Addr} {z : Str} {fs : List V} (h : KDct c.K w a z (.ref t)) (ht : ∀ H, SqT c.K H t fs) (p : P (.rl fs) g) : O2 c (zIx c.K w) (.r (.ref a)) (.d (.str z)) g P := fun I H xv yv ok rx ry Q k => by
  cases ry; cases rx
  exact .inr ⟨a, z, _, rfl, rfl, h, k.here (e := .rl fs) ok ⟨t, rfl, .inr (ht I)⟩ p⟩
/-- in a written dict -/
def rInK (d : Addr) (K : PySem.W.Frag) : R2 := fun x y H Q => ∃ (z : Str) (r : Option Value), x = .str z ∧ y = .ref d ∧ PySem.W.nsIn K d z = some r ∧ Q (.bl r.isSome) H
theorem op_inK {X : Cx} {K : PySem.W.Frag} {w : World} {d : Addr} {es : Array DictEntry} {n : Nat} (D : KDict K w d es n) (e : X.K = K := by rfl) (e2 : X.w = w := by rfl) : OpR X (compareOp .In) (rInK d K) := by subst e e2; exact op_in_kd D
theorem o_inK {a : Addr} {z : Str} {r : Option Value} (h : PySem.W.nsIn c.K a z = some r) (p : P (.d (.bool r.isSome)) g) : O2 c (rInK a c.K) (.d (.str z)) (.r (.ref a)) g P := fun I H xv yv ok rx ry Q k => by
  cases ry; cases rx
  exact ⟨z, r, rfl, rfl, h, k.here (e := .d (.bool _)) ok (Dp.bl _) p⟩
def zSl (K : PySem.W.Frag) : V → Option Int → Option Int → Hp → VK → Prop := fun x lo hi H Q => rSlA K x lo hi H Q ∨ rSlL K x lo hi H Q ∨ rSlS x lo hi H Q
theorem sl_z {X : Cx} {K : PySem.W.Frag} (e : X.K = K := by rfl) : SlR X (zSl K) := by subst e; exact sl_tupA.or (sl_list.or sl_str)
/-- a slice of a list of anything -/
def cutD {α : Type} (xs : List α) (lo hi : Option Int) : List α := (xs.drop (HT.sIx xs.length 0 lo)).take (HT.sIx xs.length xs.length hi - HT.sIx xs.length 0 lo)
theorem dpAll_cut {K : PySem.W.Frag} {H : Hp} {ds : List PyData} {vs : List V} (h : DpAll K H vs ds) (lo hi : Option Int) : DpAll K H (cutV vs lo hi) (cutD ds lo hi) := by
  unfold cutV cutD
  rw [dpAll_len h]
  exact dpAll_take _ (dpAll_drop _ h)
theorem cut_whole {α : Type} {xs : List α} {lo hi : Option Int} (h : HT.sIx xs.length 0 lo = 0 ∧ HT.sIx xs.length xs.length hi = xs.length) : cutD xs lo hi = xs := by
  unfold cutD
  rw [h.1, h.2]
  simp
theorem os_tup {ds : List PyData} {lo hi : Option Int} (p : P (.d (.tuple (cutD ds lo hi))) g) : OSl c (zSl c.K) (.d (.tuple ds)) lo hi g P := fun I H xv ok rx Q k => by
  cases rx with
  | @tup a xs _ hx ax =>
    have hl := dpAll_len ax
    refine .inl ⟨a, xs, rfl, ok.ex.seqT hx, fun hw => ?_, fun hw q hq => ?_⟩
    · rw [hl] at hw
      rw [cut_whole hw] at p
      exact k.here (e := .d (.tuple ds)) ok (Dp.tup hx ax) p
    · exact k _ (upd I q (.tup (cutV xs lo hi))) _ g (.d (.tuple _)) (Step.new ok hq) (ok.new hq) (Dp.tup (.inl (.inl upd_same)) (dpAll_mono (Ex.new (ok.free hq)) _ _ (dpAll_cut ax lo hi))) p
theorem os_lst {ds : List PyData} {lo hi : Option Int} (p : P (.d (.list (cutD ds lo hi))) g) : OSl c (zSl c.K) (.d (.list ds)) lo hi g P := fun I H xv ok rx Q k => by
  cases rx with
  | @lst a xs _ hx ax =>
    exact .inr (.inl ⟨a, xs, rfl, ok.ex.seqL hx, fun q hq => k _ (upd I q (.lst (cutV xs lo hi))) _ g (.d (.list _)) (Step.new ok hq) (ok.new hq) (Dp.lst (.inl (.inl upd_same)) (dpAll_mono (Ex.new (ok.free hq)) _ _ (dpAll_cut ax lo hi))) p⟩)
theorem os_str {z : Str} {lo hi : Option Int} (hz : z.length ≤ sizeLine) (p : P (.d (.str (cutS z lo hi))) g) : OSl c (zSl c.K) (.d (.str z)) lo hi g P := fun I H xv ok rx Q k => by
  cases rx
  exact .inr (.inr ⟨z, rfl, hz, k.here (e := .d (.str _)) ok (Dp.str _) p⟩)

/-! ### built-ins -/
def zLen (K : PySem.W.Frag) : List V → Hp → VK → Prop := fun xs H Q => ∃ x n, xs = [x] ∧ LenV K x H n ∧ Q (.int n) H
theorem cr_len {X : Cx} {K : PySem.W.Frag} (e : X.K = K := by rfl) : CallR X (.builtin "len") (zLen K) := by subst e; exact call_len
theorem cr_allZ {X : Cx} {K : PySem.W.Frag} (hc : X.calm = true) (e : X.K = K := by rfl) : CallR X (.builtin "all") (rAll K) := by subst e; exact cr_all hc
theorem pg_tupZ {X : Cx} {K : PySem.W.Frag} {es : List Expr} {k : Nat} {t : TGs} {n : Nat} {pos : Pos} (hc : X.calm = true) (h : PGs X es t) (hn : (assignEach es X.env).length = n := by rfl) (hst : (assignEach es X.env).findIdx? (·.1) = none := by rfl) (e : X.K = K := by rfl) : PG X (.Tuple es k pos) (gTup K n t) := by subst e; exact pg_tup hc h hn hst
theorem pi_tupZ {X : Cx} {K : PySem.W.Frag} {tg l : Expr} {tl : TE} (hl : PE X l tl) (e : X.K = K := by rfl) : PI X tg l (iTup K tl) := by subst e; exact pi_tup hl
theorem pi_lstZ {X : Cx} {K : PySem.W.Frag} {tg l : Expr} {tl : TE} (hl : PE X l tl) (e : X.K = K := by rfl) : PI X tg l (iList K tl) := by subst e; exact pi_list hl
theorem one_of {K : PySem.W.Frag} {I : Hp} {vs : List V} {e : EV} (r : Paired (RelE K I) vs [e]) : ∃ v, vs = [v] ∧ RelE K I v e := by
  cases r with
  | cons h t => cases t; exact ⟨_, rfl, h⟩
theorem two_of {K : PySem.W.Frag} {I : Hp} {vs : List V} {e f : EV} (r : Paired (RelE K I) vs [e, f]) : ∃ v u, vs = [v, u] ∧ RelE K I v e ∧ RelE K I u f := by
  cases r with
  | cons h t =>
    obtain ⟨u, e1, h1⟩ := one_of t
    exact ⟨_, u, by rw [e1], h, h1⟩
theorem oc_lenS {z : Str} (hz : z.length ≤ sizeLine) (p : P (.d (.int z.length)) g) : OC c (zLen c.K) [.d (.str z)] g P := fun I H vs ok r Q k => by
  obtain ⟨v, e, r1⟩ := one_of r
  subst e; cases r1
  exact ⟨_, z.length, rfl, ⟨hz, rfl⟩, k.here (e := .d (.int _)) ok (Dp.int _) p⟩
theorem oc_lenT {ds : List PyData} (p : P (.d (.int ds.length)) g) : OC c (zLen c.K) [.d (.tuple ds)] g P := fun I H vs ok r Q k => by
  obtain ⟨v, e, r1⟩ := one_of r
  subst e
  cases r1 with
  | @tup a xs _ hx ax => exact ⟨_, ds.length, rfl, .inr ⟨xs, ok.ex.seqT hx, (dpAll_len ax).symm⟩, k.here (e := .d (.int _)) ok (Dp.int _) p⟩
theorem oc_lenL {ds : List PyData} (p : P (.d (.int ds.length)) g) : OC c (zLen c.K) [.d (.list ds)] g P := fun I H vs ok r Q k => by
  obtain ⟨v, e, r1⟩ := one_of r
  subst e
  cases r1 with
  | @lst a xs _ hx ax => exact ⟨_, ds.length, rfl, .inl ⟨xs, ok.ex.seqL hx, (dpAll_len ax).symm⟩, k.here (e := .d (.int _)) ok (Dp.int _) p⟩
theorem oc_lenR {xs : List V} (p : P (.d (.int xs.length)) g) : OC c (zLen c.K) [.rl xs] g P := fun I H vs ok r Q k => by
  obtain ⟨v, e, a, e1, r1⟩ := one_of r
  subst e e1
  rcases r1 with h | h
  · exact ⟨_, xs.length, rfl, .inl ⟨xs, ok.ex.seqL h, rfl⟩, k.here (e := .d (.int _)) ok (Dp.int _) p⟩
  · exact ⟨_, xs.length, rfl, .inr ⟨xs, ok.ex.seqT h, rfl⟩, k.here (e := .d (.int _)) ok (Dp.int _) p⟩
theorem oc_all {bs : List Bool} (p : P (.d (.bool (bs.all id))) g) : OC c (rAll c.K) [.d (.list (bs.map .bool))] g P := fun I H vs ok r Q k => by
  obtain ⟨v, e, r1⟩ := one_of r
  subst e
  cases r1 with
  | @lst a xs _ hx ax =>
    have e := dpAll_bls ax
    subst e
    exact ⟨a, bs, rfl, ok.ex.seqL hx, k.here (e := .d (.bool _)) ok (Dp.bl _) p⟩
def zInt : List V → Hp → VK → Prop := fun xs H Q => (∃ i, xs = [.int i] ∧ Q (.int i) H) ∨ ∃ k, xs = [.bl k] ∧ Q (.int (if k then 1 else 0)) H
theorem cr_int {X : Cx} : CallR X (.type "int") zInt := call_int1
theorem oc_int {i : Int} (p : P (.d (.int i)) g) : OC c zInt [.d (.int i)] g P := fun I H vs ok r Q k => by
  obtain ⟨v, e, r1⟩ := one_of r
  subst e; cases r1
  exact .inl ⟨i, rfl, k.here (e := .d (.int _)) ok (Dp.int _) p⟩
theorem oc_intB {b : Bool} (p : P (.d (.int (if b then 1 else 0))) g) : OC c zInt [.d (.bool b)] g P := fun I H vs ok r Q k => by
  obtain ⟨v, e, r1⟩ := one_of r
  subst e; cases r1
  exact .inr ⟨b, rfl, k.here (e := .d (.int _)) ok (Dp.int _) p⟩
def zAbs : List V → Hp → VK → Prop := fun xs H Q => ∃ i, xs = [.int i] ∧ Q (.int (if i < 0 then -i else i)) H
theorem cr_abs {X : Cx} : CallR X (.builtin "abs") zAbs := call_abs
theorem oc_abs {i : Int} (p : P (.d (.int (if i < 0 then -i else i))) g) : OC c zAbs [.d (.int i)] g P := fun I H vs ok r Q k => by
  obtain ⟨v, e, r1⟩ := one_of r
  subst e; cases r1
  exact ⟨i, rfl, k.here (e := .d (.int _)) ok (Dp.int _) p⟩
def zMax2 : List V → Hp → VK → Prop := fun xs H Q => ∃ i j, xs = [.int i, .int j] ∧ Q (.int (if j > i then j else i)) H
theorem cr_max2' {X : Cx} (hc : X.calm = true) : CallR X (.builtin "max") zMax2 := call_max2 hc
theorem oc_max2 {i j : Int} (p : P (.d (.int (if j > i then j else i))) g) : OC c zMax2 [.d (.int i), .d (.int j)] g P := fun I H vs ok r Q k => by
  obtain ⟨v, u, e, r1, r2⟩ := two_of r
  subst e; cases r1; cases r2
  exact ⟨i, j, rfl, k.here (e := .d (.int _)) ok (Dp.int _) p⟩
def zTuple (K : PySem.W.Frag) : List V → Hp → VK → Prop := fun xs H Q => ∃ p ys, xs = [.ref p] ∧ ((SqL K H p ys ∧ ∀ l, H l = none → Q (.ref l) (upd H l (.tup ys))) ∨ (SqT K H p ys ∧ Q (.ref p) H))
theorem cr_tuple {X : Cx} {K : PySem.W.Frag} (e : X.K = K := by rfl) : CallR X (.type "tuple") (zTuple K) := by subst e; exact call_tuple_of
theorem oc_tupleL {ds : List PyData} (p : P (.d (.tuple ds)) g) : OC c (zTuple c.K) [.d (.list ds)] g P := fun I H vs ok r Q k => by
  obtain ⟨v, e, r1⟩ := one_of r
  subst e
  cases r1 with
  | @lst a xs _ hx ax =>
    exact ⟨a, xs, rfl, .inl ⟨ok.ex.seqL hx, fun q hq => k _ (upd I q (.tup xs)) _ g (.d (.tuple _)) (Step.new ok hq) (ok.new hq) (Dp.tup (.inl (.inl upd_same)) (dpAll_mono (Ex.new (ok.free hq)) _ _ ax)) p⟩⟩
def zList (K : PySem.W.Frag) : List V → Hp → VK → Prop := fun xs H Q => ∃ p ys, xs = [.ref p] ∧ (SqL K H p ys ∨ SqT K H p ys) ∧ ∀ l, H l = none → Q (.ref l) (upd H l (.lst ys))
theorem cr_list {X : Cx} {K : PySem.W.Frag} (e : X.K = K := by rfl) : CallR X (.type "list") (zList K) := by subst e; exact call_list_of
theorem oc_listT {ds : List PyData} (p : P (.d (.list ds)) g) : OC c (zList c.K) [.d (.tuple ds)] g P := fun I H vs ok r Q k => by
  obtain ⟨v, e, r1⟩ := one_of r
  subst e
  cases r1 with
  | @tup a xs _ hx ax =>
    exact ⟨a, xs, rfl, .inr (ok.ex.seqT hx), fun q hq => k _ (upd I q (.lst xs)) _ g (.d (.list _)) (Step.new ok hq) (ok.new hq) (Dp.lst (.inl (.inl upd_same)) (dpAll_mono (Ex.new (ok.free hq)) _ _ ax)) p⟩
theorem oc_listL {ds : List PyData} (p : P (.d (.list ds)) g) : OC c (zList c.K) [.d (.list ds)] g P := fun I H vs ok r Q k => by
  obtain ⟨v, e, r1⟩ := one_of r
  subst e
  cases r1 with
  | @lst a xs _ hx ax =>
    exact ⟨a, xs, rfl, .inl (ok.ex.seqL hx), fun q hq => k _ (upd I q (.lst xs)) _ g (.d (.list _)) (Step.new ok hq) (ok.new hq) (Dp.lst (.inl (.inl upd_same)) (dpAll_mono (Ex.new (ok.free hq)) _ _ ax)) p⟩
def zJoin (K : PySem.W.Frag) : V → List V → Hp → VK → Prop := fun x xs H Q => ∃ a p, ∃ ys : List Str, x = .str a ∧ xs = [.ref p] ∧ (SqL K H p (ys.map V.str) ∨ SqT K H p (ys.map V.str)) ∧ (ys.map (·.length)).sum + ys.length * a.length ≤ 16777216 ∧ Q (.str (Txt.join a ys)) H
theorem pe_joinZ {X : Cx} {K : PySem.W.Frag} {o e : Expr} {to te : TE} {apos pos : Pos} (ho : PE X o to) (he : PE X e te) (hb : attributeBase o "join" X.env (eval o X.env) = eval o X.env := by rfl) (hl : (apos.endLine == pos.line) = true := by rfl) (ek : X.K = K := by rfl) (hst : starEach [e] X.env = [(false, eval e X.env)] := by rfl) : PE X (.Call (.Attribute o "join" apos) [e] [] pos) (tM1 (zJoin K) to te) := by subst ek; exact pe_join ho he hst hb hl
theorem pv_join {x : Str} (h : PV c te ρ g fun e g1 => ∃ ys : List Str, e = .d (.list (ys.map .str)) ∧ (ys.map (·.length)).sum + ys.length * x.length ≤ 16777216 ∧ P (.d (.str (Txt.join x ys))) g1) : PV c (tM1 (zJoin c.K) (tC (.str x)) te) ρ g P := fun σ I H ok en Q k =>
  ⟨⟨x, rfl⟩, h σ I H ok en _ fun v I1 H1 g1 e s1 ok1 r1 ⟨ys, e1, hz, p1⟩ => by
    subst e1
    cases r1 with
    | @lst a xs _ hx ax =>
      have e := dpAll_strs ax
      subst e
      exact ⟨x, a, ys, rfl, rfl, .inl (ok1.ex.seqL hx), hz, k _ I1 H1 g1 (.d (.str _)) s1 ok1 (Dp.str _) p1⟩⟩

/-! ### defs told by a slot -/
theorem pv_callA {i : Nat} {S : Addr → Option Sp} {f : Addr} {F : (c : Ctx) → c.S → List EV → (EV → c.S → Prop) → Prop} {tl : TA} (hi : ρ[i]? = some (some (.r (.ref f)))) (hS : S f = some (SpF c.K F)) (h : PAs c tl ρ g fun es g1 => F c g1 es P) :
    PV c (tCallA i S tl) ρ g P := fun σ I H ok en Q k => by
  obtain ⟨v, e1, r⟩ := en.2 i _ hi
  have r' : v = .ref f := r
  subst r'
  exact ⟨f, _, e1, hS, h σ I H ok en _ fun vs I1 H1 g1 es s1 ok1 r1 p1 => ⟨c, I1, g1, es, P, rfl, ok1, r1, p1, fun v I2 H2 g2 e s2 ok2 r2 p2 => k v I2 H2 g2 e (s1.trans s2) ok2 r2 p2⟩⟩
end

/-! ### what is walked -/
def setAll (σ : L2.St) (L : List (Nat × V)) : L2.St := L.foldl (fun s p => s.set p.1 (some p.2)) σ
structure Walk (c : Ctx) (J : It) (gt : TG) (js : List Nat) (n : Nat) (f : Nat → Rho → Rho) (I1 : Hp) : Prop where
  stop : ∀ i I H g, Ex I1 I → Ok c I H g → i = n → J.stop i H
  go : ∀ i I H g, Ex I1 I → Ok c I H g → i < n → J.go i H
  yld : ∀ i I H (g : c.S) x H', Ex I1 I → Ok c I H g → i < n → J.yld i H x H' → ∀ σ ρ, EnvOk c.K I σ ρ → ∀ Q : L2.St → Hp → Prop,
    (∀ L I2 H2, (∀ p ∈ L, p.1 ∈ js) → Step c I H g I2 H2 g → Ok c I2 H2 g → EnvOk c.K I2 (setAll σ L) (f i ρ) → Q (setAll σ L) H2) → gt x σ H' Q
def PIt (c : Ctx) (wi : TI) (gt : TG) (js : List Nat) (ρ : Rho) (g : c.S) (P : Nat → (Nat → Rho → Rho) → c.S → Prop) : Prop := ∀ σ I H, Ok c I H g → EnvOk c.K I σ ρ → ∀ R : It → Hp → Prop,
  (∀ J n f I1 H1 g1, Step c I H g I1 H1 g1 → Ok c I1 H1 g1 → Walk c J gt js n f I1 → P n f g1 → R J H1) → wi σ H R
theorem wipe_set {σ : L2.St} {i : Nat} {x : Option V} : ∀ {vs : List Nat}, i ∈ vs → wipe (σ.set i x) vs = wipe σ vs
  | [], h => by cases h
  | v :: vs, h => by
    unfold wipe
    by_cases e : i ∈ vs
    · rw [wipe_set e]
    · have e' : i = v := by
        rcases List.mem_cons.mp h with q | q
        · exact q
        · exact absurd q e
      subst e'
      have hc : ∀ {ws : List Nat} {σ : L2.St}, i ∉ ws → wipe (σ.set i x) ws = (wipe σ ws).set i x := by
        intro ws
        induction ws with
        | nil => intro σ _; rfl
        | cons z ws ih =>
          intro σ hn
          have h1 : i ≠ z := fun q => hn (by rw [q]; exact List.mem_cons_self)
          have h2 : i ∉ ws := fun q => hn (List.mem_cons_of_mem _ q)
          unfold wipe
          rw [ih h2, List.set_comm _ _ h1]
      rw [hc e, List.set_set]
theorem wipe_setAll {vs : List Nat} : ∀ {L : List (Nat × V)} {σ : L2.St}, (∀ p ∈ L, p.1 ∈ vs) → wipe (setAll σ L) vs = wipe σ vs
  | [], _, _ => rfl
  | p :: L, σ, h => by
    show wipe (setAll (σ.set p.1 (some p.2)) L) vs = _
    rw [wipe_setAll (fun q m => h q (List.mem_cons_of_mem _ m)), wipe_set (h p List.mem_cons_self)]
theorem wipe_wipe {vs : List Nat} : ∀ {ws : List Nat} {σ : L2.St}, (∀ i ∈ ws, i ∈ vs) → wipe (wipe σ ws) vs = wipe σ vs
  | [], _, _ => rfl
  | w :: ws, σ, h => by
    show wipe ((wipe σ ws).set w none) vs = _
    rw [wipe_set (h w List.mem_cons_self), wipe_wipe fun i m => h i (List.mem_cons_of_mem _ m)]
section
variable {c : Ctx} {ρ : Rho} {g : c.S} {P P' : EV → c.S → Prop} {te ta tb tc tl : TE} {t u tt : TT} {I H : Hp} {Q : VK}
/-- a comprehension, by an invariant over the list so far -/
theorem pv_lc {wi : TI} {gt : TG} {js vs : List Nat}
    (h : PIt c wi gt js ρ g fun n f g1 => (∀ j ∈ js, j ∈ vs) ∧ n < sizeLine ∧ ∃ Inv : Nat → List PyData → c.S → Prop, Inv 0 [] g1 ∧
      (∀ i acc g2, i < n → acc.length ≤ i → Inv i acc g2 → PB c tt (f i (wipeR ρ vs)) g2 fun b g3 => if b = true then PV c te (f i (wipeR ρ vs)) g3 (fun e g4 => ∃ d, e = .d d ∧ Inv (i + 1) (acc ++ [d]) g4) else Inv (i + 1) acc g3) ∧
      (∀ acc g2, acc.length ≤ n → Inv n acc g2 → P (.d (.list acc)) g2)) : PV c (tLc wi gt tt te vs) ρ g P := fun σ I H ok en Q k =>
  h σ I H ok en _ fun J n f I1 H1 g1 s1 ok1 W ⟨hj, hn, Iv, i0, turn, fin⟩ D hD => by
    refine ⟨fun i m H' => m = n - i ∧ i ≤ n ∧ ∃ I' g' acc va, Step c I1 H1 g1 I' H' g' ∧ Ok c I' H' g' ∧ I' D = none ∧ ¬ c.M g' D ∧ H' D = some (.lst va) ∧ DpAll c.K I' va acc ∧ acc.length ≤ i ∧ Iv i acc g',
      ⟨n, by simp, Nat.zero_le _, I1, g1, [], [], Step.grow hD, ok1.grow hD, ok1.free hD, fun m => c.mh g1 I1 H1 D ok1.j m hD, upd_same, .nil, Nat.le_refl _, i0⟩, ?_⟩
    rintro i m H' ⟨rfl, hi, I', g', acc, va, s', ok', hID, hMD, hHD, ha, hl, inv⟩
    have hDn : H' D ≠ none := by rw [hHD]; simp
    by_cases hlt : i < n
    · refine .inr ⟨W.go i I' H' g' s'.im ok' hlt, fun H5 => n - (i + 1) < n - i ∧ ∃ I' g' acc va, Step c I1 H1 g1 I' H5 g' ∧ Ok c I' H5 g' ∧ I' D = none ∧ ¬ c.M g' D ∧ H5 D = some (.lst va) ∧ DpAll c.K I' va acc ∧ acc.length ≤ i + 1 ∧ Iv (i + 1) acc g',
        fun H5 q => ⟨n - (i + 1), q.1, rfl, hlt, q.2⟩, fun x H2 hy => ?_⟩
      have en' : EnvOk c.K I' (wipe σ vs) (wipeR ρ vs) := (en.mono (s1.im.trans s'.im)).wipe vs
      refine W.yld i I' H' g' x H2 s'.im ok' hlt hy _ _ en' _ fun L I2 H3 hL s2 ok2 en2 => ?_
      refine ⟨by rw [wipe_setAll (fun p m => hj _ (hL p m)), wipe_wipe fun _ m => m], ?_⟩
      have nM : ∀ {I2 H2 g2}, Step c I' H' g' I2 H2 g2 → ¬ c.M g2 D := fun s m => by
        rcases s.mm D m with q | q
        · exact hMD q
        · exact hDn q
      refine turn i acc g' hlt hl inv _ I2 H3 ok2 en2 _ fun b I3 H4 g3 s3 ok3 p3 => ?_
      cases b with
      | true =>
        rw [if_pos rfl] at p3 ⊢
        refine p3 _ I3 H4 ok3 (en2.mono s3.im) _ fun y I4 H5 g4 e s4 ok4 r4 ⟨d, e1, p4⟩ => ?_
        subst e1
        have sA := (s2.trans s3).trans s4
        have hID4 : I4 D = none := sA.out D hDn hID
        have hHD4 : H5 D = some (.lst va) := sA.keep D _ hHD hMD
        have hM4 := nM sA
        have lv : va.length = acc.length := dpAll_len ha
        refine ⟨va, hHD4, by rw [lv]; omega, by omega, I4, g4, acc ++ [d], va ++ [y], ?_, ?_, hID4, hM4, upd_same, dpAll_append (dpAll_mono sA.im _ _ ha) (.cons r4 .nil), by rw [List.length_append]; simp; omega, p4⟩
        · have sB := s'.trans sA
          refine ⟨sB.im, fun a o ho hm => ?_, sB.out, sB.mm, fun a ho => ?_⟩
          · have ne : a ≠ D := fun z => by rw [z, hD] at ho; cases ho
            rw [upd_ne ne]; exact sB.keep a o ho hm
          · have ne : a ≠ D := fun z => ho (by rw [z]; exact hD)
            rw [upd_ne ne]; exact sB.there a ho
        · refine ⟨fun a o ho => ?_, c.jm g4 I4 I4 H5 _ ok4.j (Ex.refl I4) fun a m => upd_ne fun z => hM4 (by rw [← z]; exact m), ok4.out⟩
          have ne : a ≠ D := fun z => by rw [z, hID4] at ho; cases ho
          rw [upd_ne ne]; exact ok4.ex a o ho
      | false =>
        rw [if_neg Bool.false_ne_true] at p3 ⊢
        have sA := s2.trans s3
        exact ⟨by omega, I3, g3, acc, va, s'.trans sA, ok3, sA.out D hDn hID, nM sA, sA.keep D _ hHD hMD, dpAll_mono sA.im _ _ ha, by omega, p3⟩
    · have e : i = n := by omega
      subst e
      refine .inl ⟨W.stop i I' H' g' s'.im ok' rfl, ?_⟩
      refine k _ (upd I' D (.lst va)) H' g' (.d (.list acc)) (s1.trans ⟨s'.im.trans (Ex.new hID), s'.keep, fun a ho hI => ?_, s'.mm, s'.there⟩) ⟨fun a o ho => ?_, c.jm g' I' _ H' H' ok'.j (Ex.new hID) fun _ _ => rfl, fun a m => ?_⟩ (Dp.lst (.inl (.inl upd_same)) (dpAll_mono (Ex.new hID) _ _ ha)) (fin acc g' hl inv)
      · have ne : a ≠ D := fun z => ho (by rw [z]; exact hD)
        rw [upd_ne ne]; exact s'.out a ho hI
      · by_cases z : a = D
        · rw [z] at ho ⊢
          rw [upd_same] at ho
          rw [hHD]; exact ho
        · rw [upd_ne z] at ho; exact ok'.ex a o ho
      · have ne : a ≠ D := fun z => hMD (by rw [← z]; exact m)
        rw [upd_ne ne]; exact ok'.out a m
/-- a for -/
theorem ps_for {wi : TI} {gt : TG} {js : List Nat} {tb : TS} {Pn : Rho → c.S → Prop} {Pr : EV → c.S → Prop}
    (h : PIt c wi gt js ρ g fun n f g1 => ∃ Inv : Nat → Rho → c.S → Prop, Inv 0 ρ g1 ∧ (∀ i ρ2 g2, i < n → Inv i ρ2 g2 → PSt c tb (f i ρ2) g2 (fun ρ3 g3 => Inv (i + 1) ρ3 g3) Pr) ∧ (∀ ρ2 g2, Inv n ρ2 g2 → Pn ρ2 g2)) :
    PSt c (tFor wi gt tb) ρ g Pn Pr := fun σ I H ok en D kn kr =>
  h σ I H ok en _ fun J n f I1 H1 g1 s1 ok1 W ⟨Iv, i0, turn, fin⟩ => by
    refine ⟨fun i m σ' H' => m = n - i ∧ i ≤ n ∧ ∃ I' g' ρ', Step c I1 H1 g1 I' H' g' ∧ Ok c I' H' g' ∧ EnvOk c.K I' σ' ρ' ∧ Iv i ρ' g', ⟨n, by simp, Nat.zero_le _, I1, g1, ρ, Step.refl, ok1, en.mono s1.im, i0⟩, ?_⟩
    rintro i m σ' H' ⟨rfl, hi, I', g', ρ', s', ok', en', inv⟩
    by_cases hlt : i < n
    · refine .inr ⟨W.go i I' H' g' s'.im ok' hlt, fun σ5 H5 => ∃ I' g' ρ', Step c I1 H1 g1 I' H5 g' ∧ Ok c I' H5 g' ∧ EnvOk c.K I' σ5 ρ' ∧ Iv (i + 1) ρ' g', fun σ5 H5 q => ⟨n - (i + 1), by omega, rfl, hlt, q⟩, fun x H2 hy => ?_⟩
      refine W.yld i I' H' g' x H2 s'.im ok' hlt hy _ _ en' _ fun L I2 H3 hL s2 ok2 en2 => ?_
      refine turn i ρ' g' hlt inv _ I2 H3 ok2 en2 _ (fun σ4 I4 H4 g4 ρ4 s4 ok4 en4 p4 => ⟨I4, g4, ρ4, s'.trans (s2.trans s4), ok4, en4, p4⟩) fun v I4 H4 g4 e s4 ok4 r4 p4 => kr v I4 H4 g4 e (s1.trans (s'.trans (s2.trans s4))) ok4 r4 p4
    · have e : i = n := by omega
      subst e
      exact .inl ⟨W.stop i I' H' g' s'.im ok' rfl, kn σ' I' H' g' ρ' (s1.trans s') ok' en' (fin ρ' g' inv)⟩

/-! ### the walks -/
/-- a turn's store of one name -/
def seqR (j : Nat) (es : Nat → Option EV) (i : Nat) (r : Rho) : Rho := match es i with | some e => r.set j (some e) | none => r
theorem seqR_at {j i : Nat} {es : Nat → Option EV} {r : Rho} {e : EV} (h : es i = some e) : seqR j es i r = r.set j (some e) := by unfold seqR; rw [h]
abbrev dsE (ds : List PyData) : Nat → Option EV := fun i => (ds[i]?).map EV.d
abbrev stE (z : Str) : Nat → Option EV := fun i => (z.cps[i]?).map fun n => EV.d (.str ⟨#[n]⟩)
theorem dsR_at {j i : Nat} {ds : List PyData} {r : Rho} {x : PyData} (h : ds[i]? = some x) : seqR j (dsE ds) i r = r.set j (some (.d x)) := seqR_at (by show (ds[i]?).map EV.d = _; rw [h]; rfl)
theorem stR_at {j i : Nat} {z : Str} {r : Rho} {n : Nat} (h : z.cps[i]? = some n) : seqR j (stE z) i r = r.set j (some (.d (.str ⟨#[n]⟩))) := seqR_at (by show (z.cps[i]?).map _ = _; rw [h]; rfl)
/-- over a tuple told as data, one name -/
theorem pit_tup {j : Nat} {P : Nat → (Nat → Rho → Rho) → c.S → Prop} (h : PV c tl ρ g fun e g1 => ∃ ds, e = .d (.tuple ds) ∧ P ds.length (seqR j (dsE ds)) g1) :
    PIt c (iTup c.K tl) (gName j) [j] ρ g P := fun σ I H ok en R k =>
  h σ I H ok en _ fun v I1 H1 g1 e s1 ok1 r1 ⟨ds, e1, p1⟩ => by
    subst e1
    cases r1 with
    | @tup a xs _ hx ax =>
      have hl := dpAll_len ax
      refine ⟨a, rfl, ⟨xs, ok1.ex.seqT hx⟩, k _ ds.length _ I1 H1 g1 s1 ok1 ⟨fun i I H g e ok hn => ⟨xs, ok.ex.seqT (e.seqT hx), by omega⟩, fun i I H g e ok hn => ?_, fun i I H g x H' e ok hn hy σ ρ en Q kq => ?_⟩ p1⟩
      · obtain ⟨v, hv, _⟩ := dpAll_get ax (List.getElem?_eq_getElem hn)
        exact ⟨xs, v, ok.ex.seqT (e.seqT hx), hv⟩
      · obtain ⟨hH, hy⟩ := hy
        subst hH
        have hv := hy xs (ok.ex.seqT (e.seqT hx))
        obtain ⟨v, hv', r⟩ := dpAll_get ax (List.getElem?_eq_getElem hn)
        rw [hv] at hv'
        cases hv'
        refine kq [(j, x)] I H' (by simp) Step.refl ok ?_
        rw [dsR_at (List.getElem?_eq_getElem hn)]
        exact en.set j (e := .d ds[i]) (dp_mono e _ _ r)
theorem pit_lst {j : Nat} {P : Nat → (Nat → Rho → Rho) → c.S → Prop} (h : PV c tl ρ g fun e g1 => ∃ ds, e = .d (.list ds) ∧ P ds.length (seqR j (dsE ds)) g1) :
    PIt c (iList c.K tl) (gName j) [j] ρ g P := fun σ I H ok en R k =>
  h σ I H ok en _ fun v I1 H1 g1 e s1 ok1 r1 ⟨ds, e1, p1⟩ => by
    subst e1
    cases r1 with
    | @lst a xs _ hx ax =>
      have hl := dpAll_len ax
      refine ⟨a, rfl, ⟨xs, ok1.ex.seqL hx⟩, k _ ds.length _ I1 H1 g1 s1 ok1 ⟨fun i I H g e ok hn => ⟨xs, ok.ex.seqL (e.seqL hx), by omega⟩, fun i I H g e ok hn => ?_, fun i I H g x H' e ok hn hy σ ρ en Q kq => ?_⟩ p1⟩
      · obtain ⟨v, hv, _⟩ := dpAll_get ax (List.getElem?_eq_getElem hn)
        exact ⟨xs, v, ok.ex.seqL (e.seqL hx), hv⟩
      · obtain ⟨hH, hy⟩ := hy
        subst hH
        have hv := hy xs (ok.ex.seqL (e.seqL hx))
        obtain ⟨v, hv', r⟩ := dpAll_get ax (List.getElem?_eq_getElem hn)
        rw [hv] at hv'
        cases hv'
        refine kq [(j, x)] I H' (by simp) Step.refl ok ?_
        rw [dsR_at (List.getElem?_eq_getElem hn)]
        exact en.set j (e := .d ds[i]) (dp_mono e _ _ r)
/-- over a text, sign by sign -/
theorem pit_str {j : Nat} {P : Nat → (Nat → Rho → Rho) → c.S → Prop} (h : PV c tl ρ g fun e g1 => ∃ z : Str, e = .d (.str z) ∧ P z.cps.size (seqR j (stE z)) g1) :
    PIt c (iStr tl) (gName j) [j] ρ g P := fun σ I H ok en R k =>
  h σ I H ok en _ fun v I1 H1 g1 e s1 ok1 r1 ⟨z, e1, p1⟩ => by
    subst e1
    cases r1
    refine ⟨z, rfl, k _ z.cps.size _ I1 H1 g1 s1 ok1 ⟨fun i I H g e ok hn => Nat.le_of_eq hn.symm, fun i I H g e ok hn => hn, fun i I H g x H' e ok hn hy σ ρ en Q kq => ?_⟩ p1⟩
    obtain ⟨hH, n, hn', hx⟩ := hy
    subst hH hx
    refine kq [(j, _)] I H' (by simp) Step.refl ok ?_
    rw [stR_at hn']
    exact en.set j (e := .d (.str ⟨#[n]⟩)) (Dp.str _)
/-- over range(n), range(a, b) -/
theorem walk_range {j : Nat} {lo : Int} {n : Nat} {I1 : Hp} : Walk c (Itr lo n) (gName j) [j] n (fun i r => r.set j (some (.d (.int (lo + i))))) I1 :=
  ⟨fun i I H g e ok hn => Nat.le_of_eq hn.symm, fun i I H g e ok hn => hn, fun i I H g x H' e ok hn hy σ ρ en Q kq => by
    obtain ⟨hH, hx⟩ := hy
    subst hH hx
    exact kq [(j, _)] I H' (by simp) Step.refl ok (en.set j (e := .d (.int (lo + i))) (Dp.int _))⟩
theorem pit_rng1 {j : Nat} {ta : TA} {P : Nat → (Nat → Rho → Rho) → c.S → Prop} (h : PAs c ta ρ g fun es g1 => ∃ n : Int, es = [.d (.int n)] ∧ -(2 ^ 62) ≤ n ∧ n < 2 ^ 62 ∧ P n.toNat (fun i r => r.set j (some (.d (.int (0 + i))))) g1) :
    PIt c (iRng1 ta) (gName j) [j] ρ g P := fun σ I H ok en R k =>
  h σ I H ok en _ fun vs I1 H1 g1 es s1 ok1 r1 ⟨n, e1, h1, h2, p1⟩ => by
    subst e1
    obtain ⟨v, e, r⟩ := one_of r1
    subst e
    cases r
    exact ⟨n, rfl, h1, h2, k _ _ _ I1 H1 g1 s1 ok1 walk_range p1⟩
theorem pit_rng2 {j : Nat} {ta : TA} {P : Nat → (Nat → Rho → Rho) → c.S → Prop} (h : PAs c ta ρ g fun es g1 => ∃ a n : Int, es = [.d (.int a), .d (.int n)] ∧ (-(2 ^ 62) ≤ a ∧ a < 2 ^ 62 ∧ -(2 ^ 62) ≤ n ∧ n < 2 ^ 62) ∧ P (n - a).toNat (fun i r => r.set j (some (.d (.int (a + i))))) g1) :
    PIt c (iRng2 ta) (gName j) [j] ρ g P := fun σ I H ok en R k =>
  h σ I H ok en _ fun vs I1 H1 g1 es s1 ok1 r1 ⟨a, n, e1, h1, p1⟩ => by
    subst e1
    obtain ⟨v, u, e, r, r'⟩ := two_of r1
    subst e
    cases r; cases r'
    exact ⟨a, n, rfl, h1, k _ _ _ I1 H1 g1 s1 ok1 walk_range p1⟩
end
end Dl

set_option Elab.async false
set_option linter.all false
set_option maxRecDepth 100000
set_option maxHeartbeats 4000000
namespace Dl
open PySem PySem.Spec PyProof.Rows L2
/-! ### zip of a list and a tuple -/
def ItzM (K : PySem.W.Frag) (a b : Addr) : It where
  go := fun i H => ∃ xs ys x y, SqL K H a xs ∧ SqT K H b ys ∧ xs[i]? = some x ∧ ys[i]? = some y
  yld := fun i H v H' => ∃ T x y, v = V.ref T ∧ H T = none ∧ H' = upd H T (.tup [x, y]) ∧ (∀ l, SqL K H a l → l[i]? = some x) ∧ (∀ l, SqT K H b l → l[i]? = some y)
  stop := fun i H => ∃ xs ys, SqL K H a xs ∧ SqT K H b ys ∧ i = min xs.length ys.length
theorem turn_zipM {P : Program} {w : World} {K : PySem.W.Frag} {elts : List Expr} {kk : Nat} {tpos : Pos} {a b z TI TO i1 i2 : Addr} (S : ZipSep2 z TI TO i1 i2 [i1, a] [i2, b]) (n1 : a ≠ i1) (n2 : b ≠ i2) :
    Turn P w K (.Tuple elts kk tpos) (ItzM K a b) [z, TI, TO, i1, i2] z (fun i h => IsZip h z TI TO .none ∧ IsTupOf2 h TI (.ref i1) (.ref i2) ∧ (∃ p q, IsTupOf2 h TO p q) ∧ h.IsListIter i1 a i ∧ h.IsTupleIter i2 b i) where
  mem := List.mem_cons_self
  obj := fun i h ⟨hz, hI, ⟨p, q, hO⟩, ⟨o1, e1, _, d1⟩, ⟨o2, e2, _, d2⟩⟩ c hc => by
    simp only [List.mem_cons, List.not_mem_nil, or_false] at hc
    rcases hc with e | e | e | e | e <;> subst e
    · exact ⟨_, hz, by intro v q; cases q⟩
    · exact ⟨_, hI, by intro v q; cases q⟩
    · exact ⟨_, hO, by intro v q; cases q⟩
    · exact ⟨o1, e1, by intro v q; rw [d1] at q; cases q⟩
    · exact ⟨o2, e2, by intro v q; rw [d2] at q; cases q⟩
  keep := fun i h h' ⟨hz, hI, ⟨p, q, hO⟩, h1, h2⟩ k =>
    ⟨k z (by simp) _ hz, k TI (by simp) _ hI, ⟨p, q, k TO (by simp) _ hO⟩, h1.at (fun o e => k i1 (by simp) o e), h2.at (fun o e => k i2 (by simp) o e)⟩
  item := by
    rintro X rfl rfl rfl hc i pins s σ H E I hf ⟨hz, hI, hO, h1, h2⟩ ⟨xs, ys, x, y, hqx, hqy, hx, hy⟩
    obtain ⟨its, rv, pl, _⟩ := I.list hqx
    obtain ⟨jts, rw_, pt, _⟩ := I.tuple hqy
    have hh : X.A.handled = none := I.ok.hd hc
    have G := GoesN.zip2 (prog := X.prog) (w := X.w) (A := X.A) (elts := elts) (x1 := kk) (pos := tpos) S (Draws.list (show X.A.in1.handled = none from hh) i1 a n1 its.toArray) (Draws.tuple (show X.A.in1.handled = none from hh) i2 b n2 jts.toArray)
    have li : i < its.length := by have := (List.getElem?_eq_some_iff.mp hx).1; have := rv.length; omega
    have lj : i < jts.length := by have := (List.getElem?_eq_some_iff.mp hy).1; have := rw_.length; omega
    refine thn (G.goes i s (fun v s2 => ∃ x H', Inv X pins σ H' s2 ∧ RelV x v ∧ (ItzM X.K a b).yld i H x H' ∧ (IsZip s2.heap z TI TO .none ∧ IsTupOf2 s2.heap TI (.ref i1) (.ref i2) ∧ (∃ p q, IsTupOf2 s2.heap TO p q) ∧ s2.heap.IsListIter i1 a (i + 1) ∧ s2.heap.IsTupleIter i2 b (i + 1)) ∧ ∀ c ∈ [z, TI, TO, i1, i2], H' c = none) E
      (by simp; omega) ⟨hz, hI, hO, ⟨h1, pl.isList⟩, ⟨h2, pt⟩⟩ ?_) fun r s1 ⟨v, hr, hv⟩ => ⟨v, hr, hv⟩
    rintro v h' tk ⟨T, u1, u2, rfl, hT, hu1, hu2, hTt⟩ ⟨gz, gI, gO, ⟨g1, _⟩, ⟨g2, _⟩⟩ kk' _
    obtain ⟨w1, hw1, r1⟩ := rv.get hx
    obtain ⟨w2, hw2, r2⟩ := rw_.get hy
    have e1 : u1 = w1 := by
      have q : its[i]? = some u1 := by simpa using hu1
      rw [hw1] at q; exact (Option.some.inj q).symm
    have e2 : u2 = w2 := by
      have q : jts[i]? = some u2 := by simpa using hu2
      rw [hw2] at q; exact (Option.some.inj q).symm
    subst e1 e2
    obtain ⟨oT, hoT, hcT, nT, hdT⟩ := hTt
    have new : ObjOk X.prog X.w (upd H T (.tup [x, y])) h' T (.tup [x, y]) := ⟨le_line (show 2 ≤ 1000000 by decide), [u1, u2], .cons r1 (.cons r2 .nil), oT, hoT, hcT, nT, hdT⟩
    refine ⟨.ref T, upd H T (.tup [x, y]), I.turnedNew (ch := [z, TI, TO, i1, i2]) (fun c o hn e => kk' c o (fun m => hn ?_) e) hf hT new, rfl, ⟨T, x, y, rfl, I.hok.fresh hT, rfl, fun l hl => by rw [I.list_inj hl hqx]; exact hx, fun l hl => by rw [I.tuple_inj hl hqy]; exact hy⟩, ⟨gz, gI, gO, g1, g2⟩, fun c m => ?_⟩
    · simp only [List.mem_cons, List.not_mem_nil, or_false] at m ⊢
      rcases m with e | e | e | e <;> simp [e]
    · have q := hf c m
      have lt : c < s.heap.objs.size := by
        obtain ⟨p, r, hO⟩ := hO
        simp only [List.mem_cons, List.not_mem_nil, or_false] at m
        rcases m with e | e | e | e | e <;> subst e
        · exact Heap.lt_size hz
        · exact Heap.lt_size hI
        · exact Heap.lt_size hO
        · obtain ⟨o, e, _⟩ := h1; exact Heap.lt_size e
        · obtain ⟨o, e, _⟩ := h2; exact Heap.lt_size e
      rw [upd_ne (Nat.ne_of_lt (Nat.lt_of_lt_of_le lt hT))]
      exact q.1
  done := by
    rintro X rfl rfl rfl hc i pins s σ H E I hf ⟨hz, hI, hO, h1, h2⟩ ⟨xs, ys, hqx, hqy, hend⟩
    obtain ⟨its, rv, pl, _⟩ := I.list hqx
    obtain ⟨jts, rw_, pt, _⟩ := I.tuple hqy
    have hh : X.A.handled = none := I.ok.hd hc
    have l1 := rv.length
    have l2 := rw_.length
    have G := GoesN.zip2 (prog := X.prog) (w := X.w) (A := X.A) (elts := elts) (x1 := kk) (pos := tpos) S (Draws.list (show X.A.in1.handled = none from hh) i1 a n1 its.toArray) (Draws.tuple (show X.A.in1.handled = none from hh) i2 b n2 jts.toArray)
    have ei : min its.toArray.size jts.toArray.size = i := by simp; omega
    refine G.stops s _ E (by rw [ei]; exact ⟨hz, hI, hO, ⟨h1, pl.isList⟩, ⟨h2, pt⟩⟩) fun h' tk kk' _ => I.turnedL (ch := [z, TI, TO, i1, i2]) (fun c o hn e => kk' c o (fun m => hn ?_) e) hf
    simp only [List.mem_cons, List.not_mem_nil, or_false] at m ⊢
    rcases m with e | e | e | e <;> simp [e]
  self := fun A i s Q E st h => wpAny_pyIter_zip st.1 h

/-- zip(e, e2): two tuples, or a list and a tuple -/
def iZipZ (K : PySem.W.Frag) (ta : TA) : TI := fun σ H R => ta σ H fun vs H1 => ∃ a b xs ys, vs = [V.ref a, V.ref b] ∧ SqT K H1 b ys ∧ ((SqT K H1 a xs ∧ R (RZ.ItzT K a b) H1) ∨ (SqL K H1 a xs ∧ R (ItzM K a b) H1))
theorem pi_zipY {X : Cx} {e e2 : Expr} {ta : TA} {p pos tpos : Pos} {elts : List Expr} {kk : Nat} (hg : Gl X "zip") (hm : X.mg "zip" = none) (ha : PA X [e, e2] ta)
    (q1 : starEach [e, e2] X.env = (false, eval e X.env) :: starEach [e2] X.env := by rfl) (q2 : (backTo pos (starEach [e2] X.env)).any (·.1) = false := by rfl) :
    PI X (.Tuple elts kk tpos) (.Call (.Name "zip" p) [e, e2] [] pos) (iZipZ X.K ta) := ⟨fun pins s σ H R I h =>
  Call_ (ld_blt I hg hm PyProof.Rows.boot_zip (PyProof.Rows.callWith_type1 (thn (ha.run pos pins s σ H _ I h) fun us s1 ⟨vs, H1, I1, r1, a, b, xs, ys, ex, hy, q⟩ => by
    subst ex
    obtain ⟨u1, u2, rfl, r, r'⟩ := vals2 r1
    cases r; cases r'
    obtain ⟨jts, rw_, pt, _⟩ := I1.tuple hy
    have lb : b < s1.heap.objs.size := by obtain ⟨o, e, _⟩ := pt; exact Heap.lt_size e
    have fr : ∀ c ∈ [s1.heap.objs.size + 4, s1.heap.objs.size + 2, s1.heap.objs.size + 3, s1.heap.objs.size, s1.heap.objs.size + 1], FpOk X pins H1 c := fun c m => by
      have le : s1.heap.objs.size ≤ c := by
        simp only [List.mem_cons, List.not_mem_nil, or_false] at m
        rcases m with e | e | e | e | e <;> rw [e] <;> first | exact Nat.le_refl _ | exact Nat.le_add_right _ _
      exact I1.fpOk le (I1.hok.fresh le)
    rcases q with ⟨hx, q⟩ | ⟨hx, q⟩
    · obtain ⟨its, rv, pu, _⟩ := I1.tuple hx
      have la : a < s1.heap.objs.size := by obtain ⟨o, e, _⟩ := pu; exact Heap.lt_size e
      exact RZ.call_zipT pu pt fun h' gz gI gO g1 g2 _ k => wpAny_pyIter_zip gz ⟨_, _, _, _, H1, rfl, I1.kept (t' := s1.toks) k, RZ.turn_zipT (PySem.W.ktu_apart _ a b la lb), ⟨gz, gI, ⟨_, _, gO⟩, g1, g2⟩, fr, q⟩
    · obtain ⟨its, rv, pl, _⟩ := I1.list hx
      refine zip_begins2 (begins_list a its.toArray) (begins_tuple b jts.toArray) pl.isList pt fun h' gz gI gO g1 g2 hsz k => wpAny_pyIter_zip gz ?_
      have la : a < s1.heap.objs.size := pl.lt
      have S := zip_sep2 (N := s1.heap.objs.size) (fp1 := [a]) (fp2 := [b]) (by simpa using la) (by simpa using lb)
      exact ⟨_, _, _, _, H1, rfl, I1.kept (t' := s1.toks) k, turn_zipM S (Nat.ne_of_lt la) (Nat.ne_of_lt (Nat.lt_succ_of_lt lb)), ⟨gz, gI, ⟨_, _, gO⟩, ⟨_, g1, rfl, rfl⟩, ⟨_, g2, rfl, rfl⟩⟩, fr, q⟩) q1 q2))⟩
theorem pi_zipZ {X : Cx} {K : PySem.W.Frag} {e e2 : Expr} {ta : TA} {p pos tpos : Pos} {elts : List Expr} {kk : Nat} (hg : Gl X "zip") (hm : X.mg "zip" = none) (ha : PA X [e, e2] ta)
    (q1 : starEach [e, e2] X.env = (false, eval e X.env) :: starEach [e2] X.env := by rfl) (q2 : (backTo pos (starEach [e2] X.env)).any (·.1) = false := by rfl) (ek : X.K = K := by rfl) :
    PI X (.Tuple elts kk tpos) (.Call (.Name "zip" p) [e, e2] [] pos) (iZipZ K ta) := by subst ek; exact pi_zipY hg hm ha q1 q2
section
variable {c : Ctx} {ρ : Rho} {g : c.S}
/-- the step of a zip's turn: two names -/
def zipR (a b : Nat) (fs : List EV) (ds : List EV) : Nat → Rho → Rho := fun i r => match fs[i]?, ds[i]? with
  | some x, some y => (r.set a (some x)).set b (some y)
  | _, _ => r
theorem zip_store {K : PySem.W.Frag} {I H : Hp} {a b : Nat} {x y : V} {ex ey : EV} {ok : Ok c I H g} {σ : L2.St} {ρ : Rho} {T : Addr} {Q : L2.St → Hp → Prop} (en : EnvOk c.K I σ ρ) (hT : H T = none) (rx : RelE c.K I x ex) (ry : RelE c.K I y ey)
    (kq : ∀ (L : List (Nat × V)) I2 H2, (∀ p ∈ L, p.1 ∈ [a, b]) → Step c I H g I2 H2 g → Ok c I2 H2 g → EnvOk c.K I2 (setAll σ L) ((ρ.set a (some ex)).set b (some ey)) → Q (setAll σ L) H2) :
    gTup c.K 2 (gCons (gName a) (gCons (gName b) gNil)) (.ref T) σ (upd H T (.tup [x, y])) Q :=
  ⟨T, [x, y], rfl, .inl (.inl upd_same), rfl, x, [y], rfl, y, [], rfl, rfl, kq [(a, x), (b, y)] I _ (by simp) (Step.grow hT) (ok.grow hT) ((en.set a rx).set b ry)⟩
/-- zip of a row of raw values and of a tuple told as data -/
theorem pit_zipRT {a b : Nat} {ta : TA} {P : Nat → (Nat → Rho → Rho) → c.S → Prop}
    (h : PAs c ta ρ g fun es g1 => ∃ fs ds, es = [.rl fs, .d (.tuple ds)] ∧ P (min fs.length ds.length) (zipR a b (fs.map .r) (ds.map .d)) g1) :
    PIt c (iZipZ c.K ta) (gTup c.K 2 (gCons (gName a) (gCons (gName b) gNil))) [a, b] ρ g P := fun σ I H ok en R k => by
  refine h σ I H ok en _ ?_
  rintro vs I1 H1 g1 es s1 ok1 r1 ⟨fs, ds, e1, p1⟩
  subst e1
  obtain ⟨v, u, e, ⟨p, ev, hp⟩, ru⟩ := two_of r1
  subst e ev
  cases ru with
  | @tup q ys _ hy ay =>
    have hl := dpAll_len ay
    refine ⟨p, q, fs, ys, rfl, ok1.ex.seqT hy, ?_⟩
    have yl : ∀ i (I : Hp) (H : Hp) (g : c.S) (σ : L2.St) (ρ : Rho) (T : Addr) (x y : V) (Q : L2.St → Hp → Prop), Ex I1 I → Ok c I H g → i < min fs.length ds.length → H T = none → fs[i]? = some x → ys[i]? = some y → EnvOk c.K I σ ρ →
        (∀ (L : List (Nat × V)) I2 H2, (∀ p ∈ L, p.1 ∈ [a, b]) → Step c I H g I2 H2 g → Ok c I2 H2 g → EnvOk c.K I2 (setAll σ L) (zipR a b (fs.map .r) (ds.map .d) i ρ) → Q (setAll σ L) H2) →
        gTup c.K 2 (gCons (gName a) (gCons (gName b) gNil)) (.ref T) σ (upd H T (.tup [x, y])) Q := by
      intro i I H g σ ρ T x y Q e ok hn hT hx hy' en kq
      have hd : i < ds.length := by omega
      obtain ⟨y', hy'', ry⟩ := dpAll_get ay (List.getElem?_eq_getElem hd)
      rw [hy'] at hy''
      cases hy''
      refine zip_store (K := c.K) (ok := ok) en hT (ex := .r x) (ey := .d ds[i]) rfl (dp_mono e _ _ ry) fun L I2 H2 hL s2 ok2 en2 => kq L I2 H2 hL s2 ok2 ?_
      have e2 : zipR a b (fs.map .r) (ds.map .d) i ρ = (ρ.set a (some (.r x))).set b (some (.d ds[i])) := by
        unfold zipR
        rw [List.getElem?_map, List.getElem?_map, hx, List.getElem?_eq_getElem hd]
        rfl
      rw [e2]; exact en2
    have get : ∀ i, i < min fs.length ds.length → ∃ x y, fs[i]? = some x ∧ ys[i]? = some y := fun i hi => ⟨fs[i]'(by omega), ys[i]'(by omega), List.getElem?_eq_getElem _, List.getElem?_eq_getElem _⟩
    rcases hp with hp | hp
    · refine .inr ⟨ok1.ex.seqL hp, k _ _ _ I1 H1 g1 s1 ok1 ⟨fun i I H g e ok hn => ?_, fun i I H g e ok hn => ?_, fun i I H g x H' e ok hn hY σ ρ en Q kq => ?_⟩ p1⟩
      · by_cases hi : i = min fs.length ys.length
        · exact ⟨fs, ys, ok.ex.seqL (e.seqL hp), ok.ex.seqT (e.seqT hy), hi⟩
        · exact absurd (by omega) hi
      · obtain ⟨x, y, hx, hy'⟩ := get i hn
        exact ⟨fs, ys, x, y, ok.ex.seqL (e.seqL hp), ok.ex.seqT (e.seqT hy), hx, hy'⟩
      · obtain ⟨T, x', y', ev, hT, eH, h1, h2⟩ := hY
        subst ev eH
        exact yl i I H g σ ρ T x' y' Q e ok hn hT (h1 fs (ok.ex.seqL (e.seqL hp))) (h2 ys (ok.ex.seqT (e.seqT hy))) en kq
    · refine .inl ⟨ok1.ex.seqT hp, k _ _ _ I1 H1 g1 s1 ok1 ⟨fun i I H g e ok hn => ⟨fs, ys, ok.ex.seqT (e.seqT hp), ok.ex.seqT (e.seqT hy), by omega⟩, fun i I H g e ok hn => ?_, fun i I H g x H' e ok hn hY σ ρ en Q kq => ?_⟩ p1⟩
      · obtain ⟨x, y, hx, hy'⟩ := get i hn
        exact ⟨fs, ys, x, y, ok.ex.seqT (e.seqT hp), ok.ex.seqT (e.seqT hy), hx, hy'⟩
      · obtain ⟨T, x', y', ev, hT, eH, h1, h2⟩ := hY
        subst ev eH
        exact yl i I H g σ ρ T x' y' Q e ok hn hT (h1 fs (ok.ex.seqT (e.seqT hp))) (h2 ys (ok.ex.seqT (e.seqT hy))) en kq
end
end Dl

set_option Elab.async false
set_option linter.all false
set_option maxRecDepth 100000
set_option maxHeartbeats 4000000
namespace L2
open PySem PySem.Spec PyProof.Rows
/-- a def that is called by its name -/
structure Def (P : Program) (w : World) (K : PySem.W.Frag) (mg : Str → Option Value) (base : Heap) (k : Nat) (x : Str) (f : Addr) (fd : FuncData) (ps : List Str) (sp : Sp) : Prop where
  ok : FnOk P w K mg base CX0 k f fd ps sp
  at_ : mg x = some (.ref f)
  kp : PySem.W.keepIn K (.ref f) = true
  bd : Binds K fd ps []
end L2
namespace Dl
open PySem PySem.Spec PyProof.Rows L2
/-- the built-in names are the built-ins' -/
structure Blt (mg : Str → Option Value) : Prop where
  isinstance_ : mg "isinstance" = none
  len_ : mg "len" = none
  all_ : mg "all" = none
  range_ : mg "range" = none
  zip_ : mg "zip" = none
  int_ : mg "int" = none
  str_ : mg "str" = none
  bool_ : mg "bool" = none
  tuple_ : mg "tuple" = none
  list_ : mg "list" = none
  abs_ : mg "abs" = none
  max_ : mg "max" = none
abbrev FT := (c : Ctx) → c.S → List EV → (EV → c.S → Prop) → Prop
/-- a promise about n arguments -/
abbrev FN (n : Nat) (F : FT) : FT := fun c g es P => es.length = n ∧ F c g es P
theorem paired_len {α β : Type} {R : α → β → Prop} : ∀ {xs : List α} {ys : List β}, Paired R xs ys → xs.length = ys.length
  | _, _, .nil => rfl
  | _, _, .cons _ t => by simp [paired_len t]
theorem lenF {K : PySem.W.Frag} {F : FT} {vs : List V} {H : Hp} {Q : VK} {E : XK} {n : Nat} (h : SpF K F vs H Q E) (l : ∀ c g es P, F c g es P → es.length = n) : vs.length = n := by
  obtain ⟨c, I, g, es, P, _, _, r, hF, _⟩ := h
  rw [paired_len r]; exact l c g es P hF
def startR (n : Nat) (es : List EV) : Rho := es.map some ++ List.replicate (n - es.length) none
theorem paired_get {K : PySem.W.Frag} {I : Hp} : ∀ {vs : List V} {es : List EV} {i : Nat} {e : EV}, Paired (RelE K I) vs es → es[i]? = some e → ∃ v, vs[i]? = some v ∧ RelE K I v e
  | _, _, i, e, .nil, h => by simp at h
  | _, _, 0, e, .cons r _, h => by simp at h; subst h; exact ⟨_, rfl, r⟩
  | _, _, i + 1, e, .cons _ t, h => by
    obtain ⟨v, a, b⟩ := paired_get (i := i) t (by simpa using h)
    exact ⟨v, by simpa using a, b⟩
theorem env_start {K : PySem.W.Frag} {I : Hp} {N : List Str} {vs : List V} {es : List EV} (r : Paired (RelE K I) vs es) : EnvOk K I (L2.start N vs) (startR N.length es) := by
  have hl := paired_len r
  refine ⟨by simp [L2.start, startR, hl], fun i e h => ?_⟩
  unfold startR at h
  unfold L2.start
  by_cases hi : i < es.length
  · rw [List.getElem?_append_left (by simpa using hi)] at h
    rw [List.getElem?_append_left (by simp [hl, hi])]
    rw [List.getElem?_map] at h ⊢
    cases q : es[i]? with
    | none => rw [q] at h; cases h
    | some e' =>
      rw [q] at h
      cases h
      obtain ⟨v, a, b⟩ := paired_get r q
      exact ⟨v, by rw [a]; rfl, b⟩
  · rw [List.getElem?_append_right (by simpa using Nat.le_of_not_lt hi)] at h
    rw [List.getElem?_replicate] at h
    split at h <;> cases h
theorem body_run {t : TS} {N : List Str} {vs : List V} {H I : Hp} {Q : VK} {c : Ctx} {g : c.S} {es : List EV} {P : EV → c.S → Prop} (ok : Ok c I H g) (r : Paired (RelE c.K I) vs es) (k : End c I H g P Q)
    (h : PSt c t (startR N.length es) g (fun _ g' => P (.d .none) g') P) : t { nx := fun _ H' => Q .non H', rt := Q } (L2.start N vs) H :=
  h _ I H ok (env_start r) _ (fun σ' I' H' g' ρ' s' ok' en' p => k _ I' H' g' (.d .none) s' ok' Dp.non p) k
/-- a judge: told data in, a flag out -/
abbrev FJ (pre : PyData → Bool) (p : PyData → Bool) : FT := FN 1 fun c g es P => ∃ d, es = [.d d] ∧ pre d = true ∧ P (.d (.bool (p d))) g

/-! ### what the program's judges tell -/
def any' : PyData → Bool := fun _ => true
def isIntP : PyData → Bool | .int _ => true | _ => false
theorem int_of {d : PyData} (h : isIntP d = true) : ∃ i, d = .int i := by cases d <;> first | exact ⟨_, rfl⟩ | cases h
def isCount : PyData → Bool | .int i => decide (0 ≤ i) | _ => false
def isBtw (a b : Int) : PyData → Bool | .int i => decide (a ≤ i) && decide (i ≤ b) | _ => false
def isTupN (n : Int) : PyData → Bool | .tuple ds => decide ((ds.length : Int) = n) | _ => false
abbrev F_is_integer : FT := FJ any' isIntP
abbrev F_is_count : FT := FJ any' isCount
abbrev F_is_between : FT := FN 3 fun c g es P => ∃ d a b, es = [.d d, .d (.int a), .d (.int b)] ∧ P (.d (.bool (isBtw a b d))) g
abbrev F_is_tuple_of : FT := FN 2 fun c g es P => ∃ d n, es = [.d d, .d (.int n)] ∧ P (.d (.bool (isTupN n d))) g
section
variable {c : Ctx} {g : c.S} {P : EV → c.S → Prop}
theorem use_FJ {pre p : PyData → Bool} {d : PyData} (h : pre d = true) (k : P (.d (.bool (p d))) g) : FJ pre p c g [.d d] P := ⟨rfl, d, rfl, h, k⟩
theorem use_is_between {d : PyData} {a b : Int} (k : P (.d (.bool (isBtw a b d))) g) : F_is_between c g [.d d, .d (.int a), .d (.int b)] P := ⟨rfl, d, a, b, rfl, k⟩
theorem use_is_tuple_of {d : PyData} {n : Int} (k : P (.d (.bool (isTupN n d))) g) : F_is_tuple_of c g [.d d, .d (.int n)] P := ⟨rfl, d, n, rfl, k⟩
theorem fin' {x y : PyData} (k : P (.d x) g) (e : x = y) : P (.d y) g := e ▸ k
theorem fin {x y : Bool} (k : P (.d (.bool x)) g) (e : x = y) : P (.d (.bool y)) g := e ▸ k
end
end Dl

set_option Elab.async false
set_option linter.all false
set_option maxRecDepth 100000
set_option maxHeartbeats 4000000
namespace Dl
open PySem PySem.Spec PyProof.Rows L2
section
variable {c : Ctx} {ρ : Rho} {g : c.S} {P : EV → c.S → Prop} {te ta tb tl : TE} {wi : TI} {gt : TG} {js vs : List Nat}
theorem map_range_succ {α : Type} (v : Nat → α) (i : Nat) : (List.range i).map v ++ [v i] = (List.range (i + 1)).map v := by rw [List.range_succ, List.map_append]; rfl
/-- a comprehension whose items are told by their place -/
theorem pv_lcM (h : PIt c wi gt js ρ g fun n f g1 => (∀ j ∈ js, j ∈ vs) ∧ n < sizeLine ∧ ∃ v : Nat → PyData, (∀ i, i < n → PV c te (f i (wipeR ρ vs)) g1 fun e g2 => e = .d (v i) ∧ g2 = g1) ∧ P (.d (.list ((List.range n).map v))) g1) :
    PV c (tLc wi gt tYes te vs) ρ g P := by
  refine pv_lc fun σ I H ok en R k => h σ I H ok en R fun J n f I1 H1 g1 s1 ok1 W ⟨hj, hn, v, hv, hp⟩ => k J n f I1 H1 g1 s1 ok1 W ⟨hj, hn, fun i acc g2 => acc = (List.range i).map v ∧ g2 = g1, ⟨rfl, rfl⟩, ?_, ?_⟩
  · rintro i acc g2 hi _ ⟨rfl, rfl⟩
    refine fun σ I H ok en Q kq => kq true I H g2 Step.refl ok ?_
    dsimp only
    rw [if_pos rfl]
    exact (hv i hi).imp fun e g3 ⟨e1, e2⟩ => ⟨v i, e1, map_range_succ v i, e2⟩
  · rintro acc g2 _ ⟨rfl, rfl⟩
    exact hp
/-- the same with a test -/
theorem pv_lcF {tt : TT} (h : PIt c wi gt js ρ g fun n f g1 => (∀ j ∈ js, j ∈ vs) ∧ n < sizeLine ∧ ∃ (q : Nat → Bool) (v : Nat → PyData), (∀ i, i < n → PB c tt (f i (wipeR ρ vs)) g1 fun b g2 => b = q i ∧ g2 = g1 ∧ (q i = true → PV c te (f i (wipeR ρ vs)) g1 fun e g2 => e = .d (v i) ∧ g2 = g1)) ∧ P (.d (.list (((List.range n).filter q).map v))) g1) :
    PV c (tLc wi gt tt te vs) ρ g P := by
  refine pv_lc fun σ I H ok en R k => h σ I H ok en R fun J n f I1 H1 g1 s1 ok1 W ⟨hj, hn, q, v, hv, hp⟩ => k J n f I1 H1 g1 s1 ok1 W ⟨hj, hn, fun i acc g2 => acc = ((List.range i).filter q).map v ∧ g2 = g1, ⟨rfl, rfl⟩, ?_, ?_⟩
  · rintro i acc g2 hi _ ⟨rfl, rfl⟩
    refine (hv i hi).imp ?_
    rintro b g3 ⟨rfl, rfl, hq⟩
    cases e : q i with
    | true =>
      dsimp only
      rw [if_pos rfl]
      exact (hq e).imp fun e' g3 ⟨e1, e2⟩ => ⟨v i, e1, by rw [List.range_succ, List.filter_append, List.map_append]; simp [e], e2⟩
    | false =>
      dsimp only
      rw [if_neg Bool.false_ne_true]
      exact ⟨by rw [List.range_succ, List.filter_append, List.map_append]; simp [e], rfl⟩
  · rintro acc g2 _ ⟨rfl, rfl⟩
    exact hp
/-- all([..]) -/
theorem pv_all (h : PIt c wi gt js ρ g fun n f g1 => (∀ j ∈ js, j ∈ vs) ∧ n < sizeLine ∧ ∃ q : Nat → Bool, (∀ i, i < n → PV c te (f i (wipeR ρ vs)) g1 fun e g2 => e = .d (.bool (q i)) ∧ g2 = g1) ∧ P (.d (.bool ((List.range n).all q))) g1) :
    PV c (tCB (rAll c.K) (tCons (tLc wi gt tYes te vs) tNil)) ρ g P := by
  refine pv_cb (pas_cons (pv_lcM fun σ I H ok en R k => h σ I H ok en R fun J n f I1 H1 g1 s1 ok1 W ⟨hj, hn, q, hv, hp⟩ => k J n f I1 H1 g1 s1 ok1 W ⟨hj, hn, fun i => .bool (q i), hv, pas_nil ?_⟩))
  have e : (List.range n).map (fun i => PyData.bool (q i)) = ((List.range n).map q).map .bool := by rw [List.map_map]; rfl
  rw [e]
  refine oc_all ?_
  have e2 : ((List.range n).map q).all id = (List.range n).all q := by rw [List.all_map]; rfl
  rw [e2]; exact hp
def intsD (a b : Int) : List PyData := (List.range (b - a).toNat).map fun i => .int (a + (i : Nat))
theorem pv_listRg2 (h : PV c ta ρ g fun x g1 => PV c tb ρ g1 fun y g2 => ∃ i j, x = .d (.int i) ∧ y = .d (.int j) ∧ RgOk i j ∧ P (.d (.list (intsD i j))) g2) : PV c (tLstRg (tRg2 ta tb)) ρ g P := fun σ I H ok en Q k =>
  h σ I H ok en _ fun v I1 H1 g1 x s1 ok1 r1 p1 => p1 σ I1 H1 ok1 (en.mono s1.im) _ fun u I2 H2 g2 y s2 ok2 r2 ⟨i, j, e1, e2, hr, p2⟩ => by
    subst e1 e2
    cases r1; cases r2
    refine ⟨i, j, rfl, rfl, hr, fun q hq => k _ (upd I2 q (.lst (rgV i j))) _ g2 (.d (.list (intsD i j))) ((s1.trans s2).trans (Step.new ok2 hq)) (ok2.new hq) (Dp.lst (.inl (.inl upd_same)) ?_) p2⟩
    have e : intsD i j = ((List.range (j - i).toNat).map fun n => (i + (n : Nat) : Int)).map .int := by unfold intsD; rw [List.map_map]; rfl
    have e' : rgV i j = ((List.range (j - i).toNat).map fun n => (i + (n : Nat) : Int)).map V.int := by unfold rgV; rw [List.map_map]; rfl
    rw [e, e']
    exact dpAll_ofInts _
def zIsB : R2 := rIsB
theorem o_isntB {a b : Bool} (p : P (.d (.bool (!decide (a = b)))) g) : O2 c rNotB (.d (.bool a)) (.d (.bool b)) g P := fun I H xv yv ok rx ry Q k => by
  cases rx; cases ry
  exact ⟨a, b, rfl, rfl, k.here (e := .d (.bool _)) ok (Dp.bl _) p⟩
/-- a tuple of names, of a tuple told as data: two or three -/
theorem ps_par2 {i j : Nat} {tl : TA} {Pn : Rho → c.S → Prop} {Pr : EV → c.S → Prop} (h : PAs c tl ρ g fun es g1 => ∃ x y, es = [x, y] ∧ Pn ((ρ.set i (some x)).set j (some y)) g1) : PSt c (tPar i j tl) ρ g Pn Pr := fun σ I H ok en D kn kr =>
  h σ I H ok en _ fun vs I1 H1 g1 es s1 ok1 r1 ⟨x, y, e1, p1⟩ => by
    subst e1
    obtain ⟨v, u, e, r, r'⟩ := two_of r1
    exact ⟨v, u, e, kn _ I1 H1 g1 _ s1 ok1 (((en.mono s1.im).set i r).set j r') p1⟩
theorem ps_par3' {i j l : Nat} {tl : TA} {Pn : Rho → c.S → Prop} {Pr : EV → c.S → Prop} (h : PAs c tl ρ g fun es g1 => ∃ x y z, es = [x, y, z] ∧ Pn (((ρ.set i (some x)).set j (some y)).set l (some z)) g1) : PSt c (tPar3 i j l tl) ρ g Pn Pr := fun σ I H ok en D kn kr =>
  h σ I H ok en _ fun vs I1 H1 g1 es s1 ok1 r1 ⟨x, y, z, e1, p1⟩ => by
    subst e1
    cases r1 with
    | cons r r1 =>
      obtain ⟨v, u, e, r', r''⟩ := two_of r1
      subst e
      exact ⟨_, _, _, rfl, kn _ I1 H1 g1 _ s1 ok1 ((((en.mono s1.im).set i r).set j r').set l r'') p1⟩
theorem ps_un3 {i j l : Nat} {Pn : Rho → c.S → Prop} {Pr : EV → c.S → Prop} (h : PV c te ρ g fun e g1 => ∃ x y z, e = .d (.tuple [x, y, z]) ∧ Pn (((ρ.set i (some (.d x))).set j (some (.d y))).set l (some (.d z))) g1) :
    PSt c (tAsg te (gTup c.K 3 (gCons (gName i) (gCons (gName j) (gCons (gName l) gNil))))) ρ g Pn Pr := fun σ I H ok en D kn kr =>
  h σ I H ok en _ fun v I1 H1 g1 e s1 ok1 r1 ⟨x, y, z, e1, p1⟩ => by
    subst e1
    cases r1 with
    | @tup a xs _ hx ax =>
      cases ax with
      | cons h1 ax =>
        cases ax with
        | cons h2 ax =>
          cases ax with
          | cons h3 ax =>
            cases ax
            exact ⟨a, _, rfl, ok1.ex.seqT hx, rfl, _, _, rfl, _, _, rfl, _, _, rfl, rfl, kn _ I1 H1 g1 _ s1 ok1 ((((en.mono s1.im).set i (e := .d x) h1).set j (e := .d y) h2).set l (e := .d z) h3) p1⟩
end

/-! ### judges, told -/
def isNumber : PyData → Bool | .int i => decide (1 ≤ i) | _ => false
def isClient : PyData → Bool := isBtw 1 9
def lows : Str := "abcdefghijklmnopqrstuvwxyz"
def isName : PyData → Bool | .str x => decide (1 ≤ (x.length : Int)) && (decide ((x.length : Int) ≤ 8) && x.cps.toList.all fun n => decide (n ∈ lows.cps.toList)) | _ => false
def isSign (n : Nat) : Bool := decide (32 ≤ n) && decide (n ≤ 126)
def isText : PyData → Bool | .str x => decide ((x.length : Int) ≤ 96) && x.cps.toList.all isSign | _ => false
def isContent : PyData → Bool | .none => true | d => isText d
def isStamp : PyData → Bool
  | .tuple [.int a, .int b, .int n] => decide (0 ≤ a) && decide (0 ≤ b) && decide (0 ≤ n) && ((decide (a = 0) && decide (b = 0) && decide (n = 0)) || (decide (1 ≤ a) && (decide (1 ≤ b) && decide (b ≤ 9)) && decide (1 ≤ n)))
  | _ => false
def isBase : PyData → Bool | .none => true | d => isStamp d
def isWord : PyData → Bool | .tuple (.str _ :: _) => true | _ => false
def allP : List PyData → List (PyData → Bool) → Bool
  | [], [] => true
  | d :: ds, p :: ps => p d && allP ds ps
  | _, _ => false
theorem allP_len : ∀ {ds : List PyData} {ps : List (PyData → Bool)}, allP ds ps = true → ds.length = ps.length
  | [], [], _ => rfl
  | d :: ds, p :: ps, h => by
    rw [allP, Bool.and_eq_true] at h
    simp [allP_len h.2]
  | [], _ :: _, h => by simp [allP] at h
  | _ :: _, [], h => by simp [allP] at h
/-- the i-th judge's word of the i-th item -/
def judgeAt (ps : List (PyData → Bool)) (ds : List PyData) (i : Nat) : Bool := match ps[i]?, ds[i]? with | some p, some d => p d | _, _ => true
theorem allP_range : ∀ {ds : List PyData} {ps : List (PyData → Bool)}, ds.length = ps.length → (List.range (min ps.length ds.length)).all (judgeAt ps ds) = allP ds ps
  | [], [], _ => rfl
  | d :: ds, p :: ps, h => by
    have h' : ds.length = ps.length := by simpa using h
    have e : min (p :: ps).length (d :: ds).length = min ps.length ds.length + 1 := by simp only [List.length_cons]; omega
    rw [e, List.range_succ_eq_map, List.all_cons, List.all_map, allP, ← allP_range h']
    rfl
  | [], _ :: _, h => by simp at h
  | _ :: _, [], h => by simp at h
def ltAt (ds : List PyData) (i : Nat) : Bool := match ds[i]?, ds[i + 1]? with | some a, some b => PySem.W.dataLt a b | _, _ => false
def asc (ds : List PyData) : Bool := (List.range (ds.length - 1)).all (ltAt ds)
def isRow (ps : List (PyData → Bool)) : PyData → Bool | .tuple xs => allP xs ps | _ => false
def cutT (n : Nat) : PyData → PyData | .tuple xs => .tuple (xs.take n) | d => d
def areRows (ps : List (PyData → Bool)) (n : Nat) : PyData → Bool | .tuple rows => rows.all (isRow ps) && asc (rows.map (cutT n)) | _ => false
abbrev F_bare_sheet : FT := FN 0 fun c g es P => es = [] ∧ P (.d (.tuple [.int 0, .int 0, .tuple []])) g
abbrev F_are_ascending : FT := FN 1 fun c g es P => ∃ ds, (es = [.d (.list ds)] ∨ es = [.d (.tuple ds)]) ∧ ds.length ≤ 1000000 ∧ (∀ i a b, ds[i]? = some a → ds[i + 1]? = some b → PySem.W.alike a b = true ∧ a ≠ .none ∧ min a.depth b.depth ≤ 60) ∧ P (.d (.bool (asc ds))) g
abbrev Tab := Addr → Option (PyData → Bool)
def Judges (tab : Tab) (fs : List V) (ps : List (PyData → Bool)) : Prop := Paired (fun f p => ∃ a, f = V.ref a ∧ tab a = some p) fs ps
abbrev F_are_all (tab : Tab) : FT := FN 2 fun c g es P => ∃ ds fs ps, es = [.d (.tuple ds), .rl fs] ∧ Judges tab fs ps ∧ fit (.tuple ds) = true ∧ P (.d (.bool (allP ds ps))) g
def RowsOk (ps : List (PyData → Bool)) (n : Nat) : Prop := n ≤ ps.length ∧ 1 ≤ n ∧ ∀ x y, allP x ps = true → allP y ps = true → PySem.W.alike (.tuple (x.take n)) (.tuple (y.take n)) = true ∧ (PyData.tuple (x.take n)).depth ≤ 60
abbrev F_are_rows (tab : Tab) : FT := FN 3 fun c g es P => ∃ d fs ps n, es = [.d d, .rl fs, .d (.int (n : Nat))] ∧ Judges tab fs ps ∧ fit d = true ∧ RowsOk ps n ∧ P (.d (.bool (areRows ps n d))) g
/-- the promise that goes with the address of a judge -/
def judgeS (K : PySem.W.Frag) (tab : Tab) : Addr → Option Sp := fun a => (tab a).map fun p => SpF K (FJ fit p)
/-- a written dict of rows of judges -/
def kTab : List (Str × Addr) → Str → Option Value
  | [], _ => none
  | (x, t) :: r, z => if x = z then some (.ref t) else kTab r z
abbrev editTests : Str → Option (List (PyData → Bool)) := fun w =>
  if ("put" : Str) = w then some [isText] else if ("splice" : Str) = w then some [isCount, isCount, isText] else if ("remove" : Str) = w then some [] else if ("take" : Str) = w then some [isName] else
  if ("adopt" : Str) = w then some [isClient, isNumber] else if ("drop" : Str) = w then some [isClient, isNumber] else none
def byWord (tests : Str → Option (List (PyData → Bool))) : PyData → Bool
  | .tuple (.str w :: r) => (match tests w with | some ps => allP r ps | none => false)
  | _ => false
def isEdit : PyData → Bool := byWord editTests
theorem str_of {d : PyData} (h : isStr d = true) : ∃ x, d = .str x := by cases d <;> first | exact ⟨_, rfl⟩ | cases h
theorem tup_of {d : PyData} (h : isTup d = true) : ∃ x, d = .tuple x := by cases d <;> first | exact ⟨_, rfl⟩ | cases h
theorem lt_line {n : Nat} (h : n ≤ 1000000) : n < sizeLine := Nat.lt_of_le_of_lt h (by rw [sizeLine_eq]; decide)
theorem pv_one {c : Ctx} {ρ : Rho} {g : c.S} {te : TE} {P : EV → c.S → Prop} (h : PV c te ρ g P) : PV c te ρ g P := h
theorem sign_lo (n : Nat) : (!decide ((⟨#[n]⟩ : Str).cps.toList < (Str.ofString " ").cps.toList)) = decide (32 ≤ n) := by
  have e : (Str.ofString " ").cps.toList = [32] := by decide +kernel
  rw [e]
  have : (([n] : List Nat) < [32]) ↔ n < 32 := by rw [List.cons_lt_cons_iff]; simp
  by_cases h : n < 32
  · rw [decide_eq_true (this.mpr h), decide_eq_false (by omega)]; rfl
  · rw [decide_eq_false (fun q => h (this.mp q)), decide_eq_true (by omega)]; rfl
theorem sign_hi (n : Nat) : (!decide ((Str.ofString "~").cps.toList < (⟨#[n]⟩ : Str).cps.toList)) = decide (n ≤ 126) := by
  have e : (Str.ofString "~").cps.toList = [126] := by decide +kernel
  rw [e]
  have : (([126] : List Nat) < [n]) ↔ 126 < n := by rw [List.cons_lt_cons_iff]; simp
  by_cases h : 126 < n
  · rw [decide_eq_true (this.mpr h), decide_eq_false (by omega)]; rfl
  · rw [decide_eq_false (fun q => h (this.mp q)), decide_eq_true (by omega)]; rfl
theorem tup3_of {d : PyData} (h : isTupN 3 d = true) : ∃ a b n, d = .tuple [a, b, n] := by
  cases d with
  | tuple xs =>
    have hl : (xs.length : Int) = 3 := of_decide_eq_true h
    match xs, hl with
    | [a, b, n], _ => exact ⟨a, b, n, rfl⟩
    | [], h => simp at h
    | [_], h => simp at h
    | [_, _], h => simp at h
    | _ :: _ :: _ :: _ :: _, h => simp at h; omega
  | _ => cases h
theorem stamp_not3 {d : PyData} (h : isTupN 3 d = false) : false = isStamp d := by
  cases e : isStamp d with
  | false => rfl
  | true =>
    unfold isStamp at e
    split at e
    · cases h
    · cases e
/-- a question put to the i-th item -/
def itemAt (xs : List PyData) (q : PyData → Bool) (i : Nat) : Bool := match xs[i]? with | some d => q d | none => true
theorem itemAt_of {xs : List PyData} {q : PyData → Bool} {i : Nat} {x : PyData} (h : xs[i]? = some x) : itemAt xs q i = q x := by unfold itemAt; rw [h]
theorem itemAt_all (xs : List PyData) (q : PyData → Bool) : (List.range xs.length).all (itemAt xs q) = xs.all q := by
  rw [Bool.eq_iff_iff, List.all_eq_true, List.all_eq_true]
  constructor
  · intro h x hx
    obtain ⟨i, hi, e⟩ := List.getElem_of_mem hx
    have := h i (List.mem_range.mpr hi)
    rw [itemAt_of (List.getElem?_eq_getElem hi), e] at this
    exact this
  · intro h i hi
    have hi' := List.mem_range.mp hi
    rw [itemAt_of (List.getElem?_eq_getElem hi')]
    exact h _ (List.getElem_mem hi')
theorem stamp_no {a b n : PyData} (h : [a, b, n].all isCount = false) : false = isStamp (.tuple [a, b, n]) := by
  cases e : isStamp (.tuple [a, b, n]) with
  | false => rfl
  | true =>
    unfold isStamp at e
    split at e
    · rename_i x y z w
      have q := PyData.tuple.inj w
      simp only [List.cons.injEq, and_true] at q
      obtain ⟨rfl, rfl, rfl⟩ := q
      simp only [Bool.and_eq_true] at e
      have : [PyData.int x, PyData.int y, PyData.int z].all isCount = true := by
        simp only [List.all_cons, List.all_nil, isCount, Bool.and_true, Bool.and_eq_true]
        exact ⟨e.1.1.1, e.1.1.2, e.1.2⟩
      rw [this] at h; cases h
    · cases e
theorem count_of {d : PyData} (h : isCount d = true) : ∃ i, d = .int i ∧ 0 ≤ i := by
  cases d with
  | int i => exact ⟨i, rfl, of_decide_eq_true h⟩
  | _ => cases h
theorem counts3 {a b n : PyData} (h : (isCount a && isCount b && isCount n) = true) : ∃ i j k, a = .int i ∧ b = .int j ∧ n = .int k ∧ 0 ≤ i ∧ 0 ≤ j ∧ 0 ≤ k := by
  simp only [Bool.and_eq_true] at h
  obtain ⟨i, e1, h1⟩ := count_of h.1.1
  obtain ⟨j, e2, h2⟩ := count_of h.1.2
  obtain ⟨k, e3, h3⟩ := count_of h.2
  exact ⟨i, j, k, e1, e2, e3, h1, h2, h3⟩
theorem eqv3 {i j k : Int} : PyData.eqv (.tuple [.int i, .int j, .int k]) (.tuple [.int 0, .int 0, .int 0]) = (decide (i = 0) && (decide (j = 0) && decide (k = 0))) := by
  simp only [PyData.eqv, PyData.eqvAll, Bool.and_true]
  rfl
theorem stamp_first {i j k : Int} (h : PyData.eqv (.tuple [.int i, .int j, .int k]) (.tuple [.int 0, .int 0, .int 0]) = true) : true = isStamp (.tuple [.int i, .int j, .int k]) := by
  rw [eqv3] at h
  simp only [Bool.and_eq_true, decide_eq_true_eq] at h
  obtain ⟨rfl, rfl, rfl⟩ := h
  rfl
theorem stamp_eq {i j k : Int} (hi : 0 ≤ i) (hj : 0 ≤ j) (hk : 0 ≤ k) (h : PyData.eqv (.tuple [.int i, .int j, .int k]) (.tuple [.int 0, .int 0, .int 0]) = false) : isStamp (.tuple [.int i, .int j, .int k]) = (isNumber (.int i) && isClient (.int j) && isNumber (.int k)) := by
  rw [eqv3] at h
  simp only [isStamp, isNumber, isClient, isBtw, decide_eq_true hi, decide_eq_true hj, decide_eq_true hk, Bool.true_and, Bool.and_assoc, h, Bool.false_or]
/-- a question put to the i-th sign -/
def signAt (x : Str) (q : Nat → Bool) (i : Nat) : Bool := match x.cps[i]? with | some n => q n | none => true
theorem signAt_all (x : Str) (q : Nat → Bool) : (List.range x.cps.size).all (signAt x q) = x.cps.toList.all q := by
  rw [Bool.eq_iff_iff, List.all_eq_true, List.all_eq_true]
  constructor
  · intro h n hn
    obtain ⟨i, hi, e⟩ := List.getElem_of_mem hn
    have hi' : i < x.cps.size := by simpa using hi
    have := h i (List.mem_range.mpr hi')
    have e2 : x.cps[i]? = some n := by rw [← e]; simp [hi']
    rw [signAt, e2] at this
    exact this
  · intro h i hi
    have hi' := List.mem_range.mp hi
    rw [signAt, Array.getElem?_eq_getElem hi']
    exact h _ (by simp)
section
variable {c : Ctx} {ρ : Rho} {g : c.S} {P : EV → c.S → Prop} {te tl : TE} {vs : List Nat} {j : Nat}
def mapAt (v : PyData → PyData) (ds : List PyData) (i : Nat) : PyData := match ds[i]? with | some d => v d | none => .none
theorem mapAt_of {v : PyData → PyData} {ds : List PyData} {i : Nat} {x : PyData} (h : ds[i]? = some x) : mapAt v ds i = v x := by unfold mapAt; rw [h]
theorem mapAt_map (v : PyData → PyData) (ds : List PyData) : (List.range ds.length).map (mapAt v ds) = ds.map v := by
  apply List.ext_getElem (by simp)
  intro i h1 h2
  have hi : i < ds.length := by simpa using h1
  simp [mapAt, List.getElem?_eq_getElem hi]
theorem filterAt_map (q : PyData → Bool) (v : PyData → PyData) (ds : List PyData) : ((List.range ds.length).filter (itemAt ds q)).map (mapAt v ds) = (ds.filter q).map v := by
  induction ds with
  | nil => rfl
  | cons d ds ih =>
    rw [List.length_cons, List.range_succ_eq_map, List.filter_cons, List.filter_map, List.filter_cons]
    have e1 : itemAt (d :: ds) q 0 = q d := rfl
    have e2 : (itemAt (d :: ds) q ∘ Nat.succ) = itemAt ds q := by funext i; unfold itemAt; simp
    have e3 : (mapAt v (d :: ds) ∘ Nat.succ) = mapAt v ds := by funext i; unfold mapAt; simp
    rw [e1, e2]
    cases q d with
    | true =>
      simp only [if_true, List.map_cons, List.map_map, e3, ih]
      rfl
    | false =>
      simp only [Bool.false_eq_true, if_false, List.map_map, e3, ih]
theorem one_mem {j : Nat} {vs : List Nat} (h : j ∈ vs) : ∀ k ∈ [j], k ∈ vs := fun k m => by
  rw [List.mem_singleton] at m; rw [m]; exact h
/-- all([.. for x in tuple]) -/
theorem pv_allT (h : PV c tl ρ g fun e g1 => ∃ ds, e = .d (.tuple ds) ∧ j ∈ vs ∧ ds.length ≤ 1000000 ∧ ∃ q : PyData → Bool, (∀ x, x ∈ ds → PV c te ((wipeR ρ vs).set j (some (.d x))) g1 fun e g2 => e = .d (.bool (q x)) ∧ g2 = g1) ∧ P (.d (.bool (ds.all q))) g1) :
    PV c (tCB (rAll c.K) (tCons (tLc (iTup c.K tl) (gName j) tYes te vs) tNil)) ρ g P := by
  refine pv_all (js := [j]) (pit_tup (h.imp ?_))
  rintro e g1 ⟨ds, e1, hj, hz, q, hq, hp⟩
  refine ⟨ds, e1, one_mem hj, lt_line hz, itemAt ds q, fun i hi => ?_, by rw [itemAt_all]; exact hp⟩
  have ei := List.getElem?_eq_getElem hi
  rw [dsR_at ei, itemAt_of ei]
  exact hq _ (List.getElem_mem hi)
/-- all([.. for sign in text]) -/
theorem pv_allS (h : PV c tl ρ g fun e g1 => ∃ z : Str, e = .d (.str z) ∧ j ∈ vs ∧ z.length ≤ 1000000 ∧ ∃ q : Nat → Bool, (∀ n, n ∈ z.cps.toList → PV c te ((wipeR ρ vs).set j (some (.d (.str ⟨#[n]⟩)))) g1 fun e g2 => e = .d (.bool (q n)) ∧ g2 = g1) ∧ P (.d (.bool (z.cps.toList.all q))) g1) :
    PV c (tCB (rAll c.K) (tCons (tLc (iStr tl) (gName j) tYes te vs) tNil)) ρ g P := by
  refine pv_all (js := [j]) (pit_str (h.imp ?_))
  rintro e g1 ⟨z, e1, hj, hz, q, hq, hp⟩
  refine ⟨z, e1, one_mem hj, lt_line hz, signAt z q, fun i hi => ?_, by rw [signAt_all]; exact hp⟩
  have ei : z.cps[i]? = some z.cps[i] := Array.getElem?_eq_getElem hi
  rw [stR_at ei]
  have e2 : signAt z q i = q z.cps[i] := by rw [signAt, ei]
  rw [e2]
  exact hq _ (by simp)
/-- all([.. for i in range(n)]) -/
theorem pv_allR {ta : TA} (h : PAs c ta ρ g fun es g1 => ∃ n : Nat, ∃ k : Int, es = [.d (.int k)] ∧ k.toNat = n ∧ j ∈ vs ∧ k ≤ 1000000 ∧ -(2 ^ 62) ≤ k ∧ ∃ q : Nat → Bool, (∀ i : Nat, i < n → PV c te ((wipeR ρ vs).set j (some (.d (.int (i : Nat))))) g1 fun e g2 => e = .d (.bool (q i)) ∧ g2 = g1) ∧ P (.d (.bool ((List.range n).all q))) g1) :
    PV c (tCB (rAll c.K) (tCons (tLc (iRng1 ta) (gName j) tYes te vs) tNil)) ρ g P := by
  refine pv_all (js := [j]) (pit_rng1 fun σ I H ok en Q k => h σ I H ok en Q fun vs1 I1 H1 g1 es s1 ok1 r1 ⟨n, m, e1, hm, hj, hz, hl, q, hq, hp⟩ => k vs1 I1 H1 g1 es s1 ok1 r1 ⟨m, e1, hl, by omega, one_mem hj, lt_line (by omega), q, fun i hi => ?_, by rw [hm]; exact hp⟩)
  dsimp only
  rw [show (0 + (i : Int)) = (i : Int) from Int.zero_add _]
  exact hq i (by omega)
/-- [.. for x in tuple], [.. for x in list] -/
theorem pv_lcT (h : PV c tl ρ g fun e g1 => ∃ ds, e = .d (.tuple ds) ∧ j ∈ vs ∧ ds.length ≤ 1000000 ∧ ∃ v : PyData → PyData, (∀ x, x ∈ ds → PV c te ((wipeR ρ vs).set j (some (.d x))) g1 fun e g2 => e = .d (v x) ∧ g2 = g1) ∧ P (.d (.list (ds.map v))) g1) :
    PV c (tLc (iTup c.K tl) (gName j) tYes te vs) ρ g P := by
  refine pv_lcM (js := [j]) (pit_tup (h.imp ?_))
  rintro e g1 ⟨ds, e1, hj, hz, v, hq, hp⟩
  refine ⟨ds, e1, one_mem hj, lt_line hz, mapAt v ds, fun i hi => ?_, by rw [mapAt_map]; exact hp⟩
  have ei := List.getElem?_eq_getElem hi
  rw [dsR_at ei, mapAt_of ei]
  exact hq _ (List.getElem_mem hi)
theorem pv_lcL (h : PV c tl ρ g fun e g1 => ∃ ds, e = .d (.list ds) ∧ j ∈ vs ∧ ds.length ≤ 1000000 ∧ ∃ v : PyData → PyData, (∀ x, x ∈ ds → PV c te ((wipeR ρ vs).set j (some (.d x))) g1 fun e g2 => e = .d (v x) ∧ g2 = g1) ∧ P (.d (.list (ds.map v))) g1) :
    PV c (tLc (iList c.K tl) (gName j) tYes te vs) ρ g P := by
  refine pv_lcM (js := [j]) (pit_lst (h.imp ?_))
  rintro e g1 ⟨ds, e1, hj, hz, v, hq, hp⟩
  refine ⟨ds, e1, one_mem hj, lt_line hz, mapAt v ds, fun i hi => ?_, by rw [mapAt_map]; exact hp⟩
  have ei := List.getElem?_eq_getElem hi
  rw [dsR_at ei, mapAt_of ei]
  exact hq _ (List.getElem_mem hi)
/-- the same with a test -/
theorem pv_lcTF {tt : TT} (h : PV c tl ρ g fun e g1 => ∃ ds, e = .d (.tuple ds) ∧ j ∈ vs ∧ ds.length ≤ 1000000 ∧ ∃ (q : PyData → Bool) (v : PyData → PyData), (∀ x, x ∈ ds → PB c tt ((wipeR ρ vs).set j (some (.d x))) g1 fun b g2 => b = q x ∧ g2 = g1 ∧ (q x = true → PV c te ((wipeR ρ vs).set j (some (.d x))) g1 fun e g2 => e = .d (v x) ∧ g2 = g1)) ∧ P (.d (.list ((ds.filter q).map v))) g1) :
    PV c (tLc (iTup c.K tl) (gName j) tt te vs) ρ g P := by
  refine pv_lcF (js := [j]) (pit_tup (h.imp ?_))
  rintro e g1 ⟨ds, e1, hj, hz, q, v, hq, hp⟩
  refine ⟨ds, e1, one_mem hj, lt_line hz, itemAt ds q, mapAt v ds, fun i hi => ?_, by rw [filterAt_map]; exact hp⟩
  have ei := List.getElem?_eq_getElem hi
  rw [dsR_at ei, mapAt_of ei, itemAt_of ei]
  exact hq _ (List.getElem_mem hi)
end
end Dl

set_option Elab.async false
set_option linter.all false
set_option autoImplicit false
set_option maxRecDepth 100000
set_option maxHeartbeats 4000000
namespace Dl
open PySem PySem.Spec PyProof.Rows L2
structure TabK (K : PySem.W.Frag) (w : World) (tab : Tab) (a : Addr) (tests : Str → Option (List (PyData → Bool))) : Prop where
  no : ∀ z, tests z = none → PySem.W.nsIn K a z = some none
  yes : ∀ z ps, tests z = some ps → ∃ t fs, PySem.W.nsIn K a z = some (some (.ref t)) ∧ KDct K w a z (.ref t) ∧ (∀ H, SqT K H t fs) ∧ Judges tab fs ps
theorem word_of {d : PyData} (h : isWord d = true) : ∃ w r, d = .tuple (.str w :: r) := by
  unfold isWord at h
  split at h
  · exact ⟨_, _, rfl⟩
  · cases h
theorem cut_tail {α : Type} {x : α} {xs : List α} : cutD (x :: xs) (some 1) none = xs := by
  unfold cutD
  have h1 : HT.sIx (x :: xs).length 0 (some 1) = 1 := by
    have := HT.sIx_nat (x :: xs).length 0 1
    simp at this
    exact this
  rw [h1, HT.sIx_none]
  simp
theorem cut_take {α : Type} {xs : List α} (n : Nat) : cutD xs none (some (n : Int)) = xs.take n := by
  unfold cutD
  rw [HT.sIx_none, HT.sIx_nat]
  simp
theorem fit_tail {w : Str} {r : List PyData} (h : fit (.tuple (.str w :: r)) = true) : fit (.tuple r) = true := by
  rw [fit_tup] at h ⊢
  exact ⟨by have := h.1; simp at this; omega, fun x m => h.2 x (List.mem_cons_of_mem _ m)⟩
theorem byWord_word {tests : Str → Option (List (PyData → Bool))} {d : PyData} (h : isWord d = false) : byWord tests d = false := by
  unfold byWord
  split
  · cases h
  · rfl
theorem byWord_none {tests : Str → Option (List (PyData → Bool))} {w : Str} {r : List PyData} (h : tests w = none) : byWord tests (.tuple (.str w :: r)) = false := by
  unfold byWord; simp only [h]
theorem byWord_some {tests : Str → Option (List (PyData → Bool))} {w : Str} {r : List PyData} {ps : List (PyData → Bool)} (h : tests w = some ps) : byWord tests (.tuple (.str w :: r)) = allP r ps := by
  unfold byWord; simp only [h]
def head0 : PyData → PyData | .tuple (x :: _) => x | d => d
abbrev sheetTests : List (PyData → Bool) := [isNumber, isName, isBase, isEdit]
def numsOk : PyData → PyData → Bool
  | .int n, .tuple rows => (decide (1 ≤ n - rows.length + 1) && PyData.eqv (.list (rows.map head0)) (.list (intsD (n - rows.length + 1) (n + 1)))) || decide ((rows.length : Int) = 0)
  | _, _ => false
def isSheet : PyData → Bool
  | .tuple [b, n, p] => isCount b && isCount n && (areRows sheetTests 1 p && numsOk n p)
  | _ => false
abbrev noteTests : Str → Option (List (PyData → Bool)) := fun w =>
  if ("boot" : Str) = w then some [] else if ("write" : Str) = w then some [isName, isBase, isEdit] else if ("settled" : Str) = w then some [isNumber] else if ("stand" : Str) = w then some [isSheet] else none
def isNote : PyData → Bool := byWord noteTests
theorem num_of {d : PyData} (h : isNumber d = true) : ∃ i, d = .int i ∧ 1 ≤ i := by
  cases d with
  | int i => exact ⟨i, rfl, of_decide_eq_true h⟩
  | _ => cases h
/-- rows that begin with a number are ordered by it -/
theorem rowsOk_num {ps : List (PyData → Bool)} : RowsOk (isNumber :: ps) 1 := by
  refine ⟨by simp, Nat.le_refl _, fun x y hx hy => ?_⟩
  cases x with
  | nil => simp [allP] at hx
  | cons a x =>
    cases y with
    | nil => simp [allP] at hy
    | cons b y =>
      rw [allP, Bool.and_eq_true] at hx hy
      obtain ⟨i, rfl, _⟩ := num_of hx.1
      obtain ⟨j, rfl, _⟩ := num_of hy.1
      refine ⟨by simp [PySem.W.alike, PySem.W.alikeAll], by simp [PyData.depth, PyData.depthAll]⟩
theorem rowsOk_head {ps : List (PyData → Bool)} {rows : List PyData} (h : rows.all (isRow (isNumber :: ps)) = true) : ∀ r ∈ rows, ∃ i xs, r = .tuple (.int i :: xs) ∧ 1 ≤ i := by
  intro r hr
  have := List.all_eq_true.mp h r hr
  unfold isRow at this
  split at this
  · rename_i xs
    cases xs with
    | nil => simp [allP] at this
    | cons a x =>
      rw [allP, Bool.and_eq_true] at this
      obtain ⟨i, rfl, hi⟩ := num_of this.1
      exact ⟨i, x, rfl, hi⟩
  · cases this
/-- the first pending write has this number -/
def settles : List PyData → List PyData → Bool
  | .tuple (.int h :: _) :: _, .int k :: _ => decide (h = k)
  | _, _ => false
def rawNoted (b n : Int) (p : List PyData) (w : Str) (rest : List PyData) : PyData :=
  if w = "boot" then .tuple [.int (b + 1), .int n, .tuple p]
  else if w = "write" then .tuple [.int b, .int (n + 1), .tuple (p ++ [.tuple (.int (n + 1) :: rest)])]
  else if w = "settled" then .tuple [.int b, .int n, .tuple (if settles p rest then p.drop 1 else p)]
  else rest.headD .none
abbrev F_check_sheet : FT := FN 1 fun c g es P => ∃ d, es = [.d d] ∧ fit d = true ∧ isSheet d = true ∧ P (.d .none) g
abbrev F_raw_noted : FT := FN 2 fun c g es P => ∃ b n p w rest, es = [.d (.tuple [.int b, .int n, .tuple p]), .d (.tuple (.str w :: rest))] ∧ p.length ≤ 1000000 ∧ rest.length ≤ 10 ∧
  (w = "settled" → (∃ k, rest = [.int k]) ∧ ∀ r ∈ p, ∃ i xs, r = .tuple (.int i :: xs)) ∧ (w ≠ "boot" → rest ≠ []) ∧ P (.d (rawNoted b n p w rest)) g
def noted : PyData → PyData → PyData
  | .tuple [.int b, .int n, .tuple p], .tuple (.str w :: rest) => rawNoted b n p w rest
  | _, _ => .none
abbrev F_noted_behind : FT := FN 2 fun c g es P => ∃ s d, es = [.d s, .d d] ∧ fit s = true ∧ fit d = true ∧ isSheet s = true ∧ isNote d = true ∧ P (.d (noted s d)) g
theorem sheet_of {s : PyData} (h : isSheet s = true) : ∃ b n p, s = .tuple [.int b, .int n, .tuple p] ∧ ∀ r ∈ p, ∃ i xs, r = .tuple (.int i :: xs) := by
  unfold isSheet at h
  split at h
  · rename_i b n p
    simp only [Bool.and_eq_true] at h
    obtain ⟨⟨h1, h2⟩, h3, h4⟩ := h
    obtain ⟨i, rfl, _⟩ := count_of h1
    obtain ⟨j, rfl, _⟩ := count_of h2
    unfold areRows at h3
    split at h3
    · rename_i rows
      rw [Bool.and_eq_true] at h3
      exact ⟨i, j, rows, rfl, fun r hr => let ⟨i, xs, e, _⟩ := rowsOk_head h3.1 r hr; ⟨i, xs, e⟩⟩
    · cases h3
  · cases h
theorem note_of {d : PyData} (h : isNote d = true) : ∃ w rest, d = .tuple (.str w :: rest) ∧ rest.length ≤ 10 ∧ (w = "settled" → ∃ k, rest = [.int k]) ∧ (w ≠ "boot" → rest ≠ []) := by
  unfold isNote byWord at h
  split at h
  · rename_i w rest
    split at h
    · rename_i ps hps
      have hl := allP_len h
      simp only [noteTests] at hps
      refine ⟨w, rest, rfl, ?_, fun e => ?_, fun e => ?_⟩
      · (repeat' split at hps) <;> cases hps <;> (first | (rw [hl]; decide) | (simp only [List.length_nil, List.length_cons] at hl; omega))
      · subst e
        rw [if_neg (by decide +kernel), if_neg (by decide +kernel), if_pos rfl] at hps
        cases hps
        match rest, h with
        | [k], h =>
          rw [allP, Bool.and_eq_true] at h
          obtain ⟨i, rfl, _⟩ := num_of h.1
          exact ⟨i, rfl⟩
        | [], h => simp [allP] at h
        | _ :: _ :: _, h => simp [allP] at h
      · intro q
        subst q
        rw [if_neg (fun z => e z.symm)] at hps
        (repeat' split at hps) <;> cases hps <;> simp at hl
    · cases h
  · cases h
theorem judges_get {tab : Tab} : ∀ {fs : List V} {ps : List (PyData → Bool)} {i : Nat} {f : V}, Judges tab fs ps → fs[i]? = some f → ∃ p, ps[i]? = some p ∧ ∃ a, f = V.ref a ∧ tab a = some p
  | _, _, i, f, .nil, h => by simp at h
  | _, _, 0, f, .cons r _, h => by simp at h; subst h; exact ⟨_, rfl, r⟩
  | _, _, i + 1, f, .cons _ t, h => by
    obtain ⟨p, a, b⟩ := judges_get (i := i) t (by simpa using h)
    exact ⟨p, by simpa using a, b⟩
theorem zipR_at {a b i : Nat} {fs ds : List EV} {r : Rho} {x y : EV} (h1 : fs[i]? = some x) (h2 : ds[i]? = some y) : zipR a b fs ds i r = (r.set a (some x)).set b (some y) := by unfold zipR; rw [h1, h2]
theorem allP_ne {ds : List PyData} {ps : List (PyData → Bool)} (h : ds.length ≠ ps.length) : allP ds ps = false := by
  cases e : allP ds ps with
  | false => rfl
  | true => exact absurd (allP_len e) h
theorem rows_not {ps : List (PyData → Bool)} {n : Nat} {d : PyData} (h : isTup d = false) : areRows ps n d = false := by
  cases d <;> first | rfl | cases h
theorem row_not {ps : List (PyData → Bool)} {d : PyData} (h : isTup d = false) : isRow ps d = false := by
  cases d <;> first | rfl | cases h
theorem rows_bad {ps : List (PyData → Bool)} {n : Nat} {rows : List PyData} (h : rows.all (isRow ps) = false) : areRows ps n (.tuple rows) = false := by
  rw [areRows, h, Bool.false_and]
theorem rows_good {ps : List (PyData → Bool)} {n : Nat} {rows : List PyData} (h : rows.all (isRow ps) = true) : areRows ps n (.tuple rows) = asc (rows.map (cutT n)) := by
  rw [areRows, h, Bool.true_and]
theorem row_of {ps : List (PyData → Bool)} {d : PyData} (h : isRow ps d = true) : ∃ xs, d = .tuple xs ∧ allP xs ps = true := by
  unfold isRow at h
  split at h
  · exact ⟨_, rfl, h⟩
  · cases h
theorem rows_alike {ps : List (PyData → Bool)} {n : Nat} {rows : List PyData} (h : rows.all (isRow ps) = true) (k : RowsOk ps n) : ∀ (i : Nat) (a b : PyData), (rows.map (cutT n))[i]? = some a → (rows.map (cutT n))[i + 1]? = some b → PySem.W.alike a b = true ∧ a ≠ .none ∧ min a.depth b.depth ≤ 60 := by
  intro i a b ha hb
  rw [List.getElem?_map] at ha hb
  cases e1 : rows[i]? with
  | none => rw [e1] at ha; cases ha
  | some x =>
    cases e2 : rows[i + 1]? with
    | none => rw [e2] at hb; cases hb
    | some y =>
      rw [e1] at ha; rw [e2] at hb
      obtain ⟨xs, ex, hx⟩ := row_of (List.all_eq_true.mp h x (List.mem_of_getElem? e1))
      obtain ⟨ys, ey, hy⟩ := row_of (List.all_eq_true.mp h y (List.mem_of_getElem? e2))
      subst ex ey
      cases ha; cases hb
      obtain ⟨q1, q2⟩ := k.2.2 xs ys hx hy
      exact ⟨q1, (fun z => nomatch z), Nat.le_trans (Nat.min_le_left _ _) q2⟩
theorem sheet_not3 {d : PyData} (h : isTupN 3 d = false) : isSheet d = false := by
  cases e : isSheet d with
  | false => rfl
  | true =>
    unfold isSheet at e
    split at e
    · cases h
    · cases e
theorem depthAll_ints : ∀ {ds : List PyData}, (∀ d ∈ ds, ∃ i, d = .int i) → PyData.depthAll ds = 0
  | [], _ => by simp [PyData.depthAll]
  | d :: ds, h => by
    obtain ⟨i, rfl⟩ := h d List.mem_cons_self
    simp [PyData.depthAll, PyData.depth, depthAll_ints fun x m => h x (List.mem_cons_of_mem _ m)]
theorem depth_ints {ds : List PyData} (h : ∀ d ∈ ds, ∃ i, d = .int i) : (PyData.list ds).depth ≤ 64 := by
  simp [PyData.depth, depthAll_ints h]
theorem rows_tup {ps : List (PyData → Bool)} {n : Nat} {d : PyData} (h : areRows ps n d = true) : ∃ rows, d = .tuple rows ∧ rows.all (isRow ps) = true := by
  unfold areRows at h
  split at h
  · rw [Bool.and_eq_true] at h
    exact ⟨_, rfl, h.1⟩
  · cases h
theorem intsD_int {a b : Int} : ∀ d ∈ intsD a b, ∃ i, d = .int i ∧ a ≤ i ∧ i < b := by
  intro d hd
  unfold intsD at hd
  obtain ⟨i, hi, e⟩ := List.mem_map.mp hd
  have := List.mem_range.mp hi
  exact ⟨_, e.symm, by omega, by omega⟩
theorem fit_ints {ds : List PyData} (hz : ds.length ≤ 1000000) (h : ∀ d ∈ ds, ∃ i, d = .int i ∧ -(2 ^ 61) ≤ i ∧ i ≤ 2 ^ 61) : fit (.list ds) = true := by
  rw [fit_lst]
  refine ⟨hz, fun x m => ?_⟩
  obtain ⟨i, rfl, a, b⟩ := h x m
  exact fit_int.mpr ⟨a, b⟩
theorem sheet_eq {b : PyData} {N : Int} {rows : List PyData} (h1 : isCount b = true) (h2 : isCount (.int N) = true) (h3 : areRows sheetTests 1 (.tuple rows) = true) :
    isSheet (.tuple [b, .int N, .tuple rows]) = ((decide (1 ≤ N - rows.length + 1) && PyData.eqv (.list (rows.map head0)) (.list (intsD (N - rows.length + 1) (N + 1)))) || decide ((rows.length : Int) = 0)) := by
  show (isCount b && isCount (.int N) && (areRows sheetTests 1 (.tuple rows) && numsOk (.int N) (.tuple rows))) = _
  rw [h1, h2, h3]
  rfl
theorem take1_eq {p : List PyData} : cutD p (some 1) none = p.drop 1 := by
  cases p with
  | nil =>
    unfold cutD
    simp
  | cons x xs => rw [cut_tail]; rfl
end Dl

set_option Elab.async false
set_option linter.all false
set_option autoImplicit false
set_option maxRecDepth 100000
set_option maxHeartbeats 4000000
namespace Pr
open PySem PySem.Spec PyProof.Rows L2 Dl
def topS (i : Nat) : Stmt := PySem.Challenge.pw_leasefiles_k19_whole_sheets_by_their_dee.main.body.getD i (.Pass ⟨0, 0, 0, 0⟩)
abbrev s_is_integer : Stmt := topS 5
theorem sc_is_integer : FnScope ["thing"] ["thing"] (defScope s_is_integer) := ⟨rfl, rfl, rfl, by decide +kernel, rfl, by decide +kernel, by decide +kernel⟩

abbrev s_is_between : Stmt := topS 6
theorem sc_is_between : FnScope ["thing", "least", "most"] ["thing", "least", "most"] (defScope s_is_between) := ⟨rfl, rfl, rfl, by decide +kernel, rfl, by decide +kernel, by decide +kernel⟩

abbrev s_is_count : Stmt := topS 7
theorem sc_is_count : FnScope ["thing"] ["thing"] (defScope s_is_count) := ⟨rfl, rfl, rfl, by decide +kernel, rfl, by decide +kernel, by decide +kernel⟩

abbrev s_is_tuple_of : Stmt := topS 8
theorem sc_is_tuple_of : FnScope ["thing", "many"] ["thing", "many"] (defScope s_is_tuple_of) := ⟨rfl, rfl, rfl, by decide +kernel, rfl, by decide +kernel, by decide +kernel⟩

abbrev s_are_ascending : Stmt := topS 9
theorem sc_are_ascending : FnScope ["things", "at"] ["things"] (defScope s_are_ascending) := ⟨rfl, rfl, rfl, by decide +kernel, rfl, by decide +kernel, by decide +kernel⟩

abbrev s_is_client : Stmt := topS 22
theorem sc_is_client : FnScope ["thing"] ["thing"] (defScope s_is_client) := ⟨rfl, rfl, rfl, by decide +kernel, rfl, by decide +kernel, by decide +kernel⟩

abbrev s_is_name : Stmt := topS 23
theorem sc_is_name : FnScope ["thing", "sign"] ["thing"] (defScope s_is_name) := ⟨rfl, rfl, rfl, by decide +kernel, rfl, by decide +kernel, by decide +kernel⟩

abbrev s_is_text : Stmt := topS 24
theorem sc_is_text : FnScope ["thing", "sign"] ["thing"] (defScope s_is_text) := ⟨rfl, rfl, rfl, by decide +kernel, rfl, by decide +kernel, by decide +kernel⟩

abbrev s_is_number : Stmt := topS 25
theorem sc_is_number : FnScope ["thing"] ["thing"] (defScope s_is_number) := ⟨rfl, rfl, rfl, by decide +kernel, rfl, by decide +kernel, by decide +kernel⟩

abbrev s_is_stamp : Stmt := topS 26
theorem sc_is_stamp : FnScope ["thing", "one"] ["thing"] (defScope s_is_stamp) := ⟨rfl, rfl, rfl, by decide +kernel, rfl, by decide +kernel, by decide +kernel⟩

abbrev s_is_base : Stmt := topS 27
theorem sc_is_base : FnScope ["thing"] ["thing"] (defScope s_is_base) := ⟨rfl, rfl, rfl, by decide +kernel, rfl, by decide +kernel, by decide +kernel⟩

abbrev s_are_all : Stmt := topS 29
theorem sc_are_all : FnScope ["things", "tests", "test", "one"] ["things", "tests"] (defScope s_are_all) := ⟨rfl, rfl, rfl, by decide +kernel, rfl, by decide +kernel, by decide +kernel⟩

abbrev s_has_word : Stmt := topS 30
theorem sc_has_word : FnScope ["thing"] ["thing"] (defScope s_has_word) := ⟨rfl, rfl, rfl, by decide +kernel, rfl, by decide +kernel, by decide +kernel⟩

abbrev s_is_edit : Stmt := topS 31
theorem sc_is_edit : FnScope ["thing"] ["thing"] (defScope s_is_edit) := ⟨rfl, rfl, rfl, by decide +kernel, rfl, by decide +kernel, by decide +kernel⟩

abbrev s_are_rows : Stmt := topS 33
theorem sc_are_rows : FnScope ["thing", "tests", "size", "row"] ["thing", "tests", "size"] (defScope s_are_rows) := ⟨rfl, rfl, rfl, by decide +kernel, rfl, by decide +kernel, by decide +kernel⟩

abbrev s_bare_sheet : Stmt := topS 39
theorem sc_bare_sheet : FnScope [] [] (defScope s_bare_sheet) := ⟨rfl, rfl, rfl, by decide +kernel, rfl, by decide +kernel, by decide +kernel⟩

abbrev s_is_sheet : Stmt := topS 40
theorem sc_is_sheet : FnScope ["thing", "numbers", "write", "first"] ["thing"] (defScope s_is_sheet) := ⟨rfl, rfl, rfl, by decide +kernel, rfl, by decide +kernel, by decide +kernel⟩

abbrev s_check_sheet : Stmt := topS 41
theorem sc_check_sheet : FnScope ["thing"] ["thing"] (defScope s_check_sheet) := ⟨rfl, rfl, rfl, by decide +kernel, rfl, by decide +kernel, by decide +kernel⟩

abbrev s_is_note : Stmt := topS 43
theorem sc_is_note : FnScope ["thing"] ["thing"] (defScope s_is_note) := ⟨rfl, rfl, rfl, by decide +kernel, rfl, by decide +kernel, by decide +kernel⟩

abbrev s_raw_noted : Stmt := topS 44
theorem sc_raw_noted : FnScope ["sheet", "deed", "boot", "number", "pending", "word", "rest"] ["sheet", "deed"] (defScope s_raw_noted) := ⟨rfl, rfl, rfl, by decide +kernel, rfl, by decide +kernel, by decide +kernel⟩

abbrev s_noted_behind : Stmt := topS 45
theorem sc_noted_behind : FnScope ["sheet", "deed"] ["sheet", "deed"] (defScope s_noted_behind) := ⟨rfl, rfl, rfl, by decide +kernel, rfl, by decide +kernel, by decide +kernel⟩

abbrev s__law_pot : Stmt := topS 47
theorem sc__law_pot : FnScope ["_law_script", "_law_cells", "_law_cell"] ["_law_script"] (defScope s__law_pot) := ⟨rfl, rfl, rfl, by decide +kernel, rfl, by decide +kernel, by decide +kernel⟩

abbrev s__law_draw : Stmt := topS 48
theorem sc__law_draw : FnScope ["_law_pot_here", "_law_many", "_law_cell", "_law_digit", "_law_number"] ["_law_pot_here", "_law_many"] (defScope s__law_draw) := ⟨rfl, rfl, rfl, by decide +kernel, rfl, by decide +kernel, by decide +kernel⟩

abbrev s__law_any : Stmt := topS 49
theorem sc__law_any : FnScope ["_law_pot_here", "_law_things"] ["_law_pot_here", "_law_things"] (defScope s__law_any) := ⟨rfl, rfl, rfl, by decide +kernel, rfl, by decide +kernel, by decide +kernel⟩

abbrev s__law_is : Stmt := topS 51
theorem sc__law_is : FnScope ["_law_told", "_law_due", "_law_k"] ["_law_told", "_law_due"] (defScope s__law_is) := ⟨rfl, rfl, rfl, by decide +kernel, rfl, by decide +kernel, by decide +kernel⟩

abbrev s__law_signs : Stmt := topS 52
theorem sc__law_signs : FnScope ["_law_pot_here", "_law_many", "_law_signs_here", "_law_k"] ["_law_pot_here", "_law_many"] (defScope s__law_signs) := ⟨rfl, rfl, rfl, by decide +kernel, rfl, by decide +kernel, by decide +kernel⟩

abbrev s__law_text : Stmt := topS 53
theorem sc__law_text : FnScope ["_law_pot_here"] ["_law_pot_here"] (defScope s__law_text) := ⟨rfl, rfl, rfl, by decide +kernel, rfl, by decide +kernel, by decide +kernel⟩

abbrev s__law_name : Stmt := topS 54
theorem sc__law_name : FnScope ["_law_pot_here", "_law_many", "_law_k"] ["_law_pot_here"] (defScope s__law_name) := ⟨rfl, rfl, rfl, by decide +kernel, rfl, by decide +kernel, by decide +kernel⟩

abbrev s__law_edit : Stmt := topS 59
theorem sc__law_edit : FnScope ["_law_pot_here", "_law_name_here", "_law_client", "_law_number", "_law_some"] ["_law_pot_here"] (defScope s__law_edit) := ⟨rfl, rfl, rfl, by decide +kernel, rfl, by decide +kernel, by decide +kernel⟩

abbrev s__law_account : Stmt := topS 60
theorem sc__law_account : FnScope ["_law_begin"] ["_law_begin"] (defScope s__law_account) := ⟨rfl, rfl, rfl, by decide +kernel, rfl, by decide +kernel, by decide +kernel⟩

abbrev s__law_sheet_of : Stmt := topS 61
theorem sc__law_sheet_of : FnScope ["_law_account_here"] ["_law_account_here"] (defScope s__law_sheet_of) := ⟨rfl, rfl, rfl, by decide +kernel, rfl, by decide +kernel, by decide +kernel⟩

abbrev s__law_did : Stmt := topS 62
theorem sc__law_did : FnScope ["_law_pot_here", "_law_account_here", "_law_left", "_law_way", "_law_base", "_law_deed"] ["_law_pot_here", "_law_account_here"] (defScope s__law_did) := ⟨rfl, rfl, rfl, by decide +kernel, rfl, by decide +kernel, by decide +kernel⟩

abbrev s_law : Stmt := topS 63
theorem sc_law : FnScope ["_law_script", "_law_pot_here", "_law_sheet", "_law_account_here", "_law_turn", "_law_number", "_law_stands"] ["_law_script"] (defScope s_law) := ⟨rfl, rfl, rfl, by decide +kernel, rfl, by decide +kernel, by decide +kernel⟩

theorem ite_t {b : Bool} {X Y : Prop} (e : b = true) (h : X) : if b = true then X else Y := by rw [if_pos e]; exact h
theorem ite_f {b : Bool} {X Y : Prop} (e : b = false) (h : Y) : if b = true then X else Y := by rw [if_neg (by rw [e]; exact Bool.false_ne_true)]; exact h
theorem ite_b {b : Bool} {X Y : Prop} (h1 : b = true → X) (h2 : b = false → Y) : if b = true then X else Y := by
  cases b with
  | true => exact h1 rfl
  | false => exact h2 rfl
local macro_rules | `(tactic| walk_at "dl1") => `(tactic| first
  | (with_reducible refine ps_seq ?_)
  | (with_reducible refine ps_ret ?_)
  | (with_reducible refine ps_if ?_)
  | (with_reducible refine ps_set ?_)
  | (with_reducible refine ps_next ?_)
  | (with_reducible refine ps_drop ?_)
  | ((with_reducible refine' pv_var ?k1 ?_); (case k1 => rfl))
  | (with_reducible refine pv_int ?_)
  | (with_reducible refine pv_str ?_)
  | (with_reducible refine pv_bl ?_)
  | (with_reducible refine pv_non ?_)
  | (with_reducible refine pv_and ?_)
  | (with_reducible refine pv_or ?_)
  | (with_reducible refine pv_not ?_)
  | (with_reducible refine pv_if ?_)
  | (with_reducible refine pv_op ?_)
  | (with_reducible refine pv_un ?_)
  | (with_reducible refine pv_chain ?_)
  | (with_reducible refine pv_tup ?_)
  | (with_reducible refine pv_lst2 ?_)
  | (with_reducible refine pv_call ?_)
  | (with_reducible refine pv_allT ?_)
  | (with_reducible refine pv_allS ?_)
  | (with_reducible refine pv_allR ?_)
  | (with_reducible refine pv_lcT ?_)
  | (with_reducible refine pv_lcL ?_)
  | (with_reducible refine pv_lcTF ?_)
  | (with_reducible refine pv_listRg2 ?_)
  | (with_reducible refine pv_cb ?_)
  | (with_reducible refine pv_sl ?_)
  | (with_reducible refine pp_none ?_)
  | (with_reducible refine pp_some ?_)
  | (with_reducible refine pas_nil ?_)
  | (with_reducible refine pas_cons ?_)
  | (with_reducible refine pb_test' ?_)
  | (with_reducible refine pb_B ?_)
  | (with_reducible refine pb_and ?_)
  | (with_reducible refine pb_or ?_)
  | (with_reducible refine pb_not ?_)
  | (with_reducible refine oc_isi (isT_int _) ?_)
  | (with_reducible refine oc_isi (isT_bool _) ?_)
  | (with_reducible refine oc_isi (isT_str _) ?_)
  | (with_reducible refine oc_isi (isT_tuple _) ?_)
  | (with_reducible refine oc_isi (isT_list _) ?_)
  | (with_reducible refine oc_lenT ?_)
  | (with_reducible refine oc_lenL ?_)
  | (with_reducible refine oc_lenR ?_)
  | (with_reducible refine o_add ?_)
  | (with_reducible refine o_ii ?_)
  | (with_reducible refine o_ib ?_)
  | (with_reducible refine o_le ?_)
  | (with_reducible refine o_lt ?_)
  | (with_reducible refine o_eqI ?_)
  | (with_reducible refine o_neI ?_)
  | (with_reducible refine o_eqS ?_)
  | (with_reducible refine o_eqB ?_)
  | (with_reducible refine o_neB ?_)
  | ((with_reducible refine' pv_const ?k1 ?_); (case k1 => assumption))
  | (with_reducible refine pv_raw ?_)
  | ((with_reducible refine oc_lenS ?k1 ?_); (case k1 => assumption))
  | (with_reducible refine o_leS ?_)
  | (with_reducible refine o_inS ?_)
  | ((with_reducible refine' o_isN ?k1 ?_); (case k1 => rfl))
  | ((with_reducible refine' o_notN ?k1 ?_); (case k1 => rfl))
  | (with_reducible refine o_isntB ?_)
  | ((with_reducible refine' o_ixT ?k1 ?_); (case k1 => first | exact at0 | exact at1 | rfl))
  | (with_reducible refine os_tup ?_)
  | ((with_reducible refine ite_t ?k1 ?_); (case k1 => rfl))
  | ((with_reducible refine ite_f ?k1 ?_); (case k1 => rfl))
  | ((with_reducible refine use_FJ ?k1 ?_); (case k1 => first | rfl | assumption))
  | (with_reducible refine use_is_between ?_)
  | (with_reducible refine use_is_tuple_of ?_)
  | (refine Or.inl (Exists.intro _ (And.intro rfl (And.intro (le_line (Nat.le_of_ble_eq_true rfl)) ?_))))
  | (refine Or.inr (Exists.intro _ (And.intro rfl (And.intro (le_line (Nat.le_of_ble_eq_true rfl)) ?_))))
  | (with_reducible refine Exists.intro _ (And.intro rfl ?_))
  | ((with_reducible refine And.intro ?k1 ?_); (case k1 => exact le_line (Nat.le_of_ble_eq_true rfl))))
local macro_rules | `(tactic| walk_at "dl") => `(tactic| repeat walk_at "dl1")

variable {P : Program} {w : World} {K : PySem.W.Frag} {mg : Str → Option Value} {base : Heap}
theorem ok_is_integer {f : Addr} {fd : FuncData} (F : Fun K "is_integer" "is_integer" s_is_integer f fd)   (B : Blt mg)  : FnOk P w K mg base CX0 1 f fd ["thing"] (SpF K F_is_integer) := by
  refine F.ok sc_is_integer (fun vs H Q E h => ?_) (fun cdv A outer s H vs Q E hr h => ?_)
  · exact lenF h fun c g es P h => h.1
  obtain ⟨c, I, g, es, P, rfl, ok, r, hF, k⟩ := h
  have nd := sc_is_integer.nd
  have hu := hr.units
  have hu1 := hu_of hr
  refine ⟨_, (pss_one (L2.ps_ret (pe_and (pe_callB (cr_isi (K := c.K)) (by rfl) B.isinstance_ (by decide +kernel) (pa_cons (pv 0) (pa_cons (pe_bltn (v := .ty "int") (by rfl) B.int_ PyProof.Rows.boot_int rfl) pa_nil))) (pe_one (pe_not (pe_callB (cr_isi (K := c.K)) (by rfl) B.isinstance_ (by decide +kernel) (pa_cons (pv 0) (pa_cons (pe_bltn (v := .ty "bool") (by rfl) B.bool_ PyProof.Rows.boot_bool rfl) pa_nil)))))))), body_run ok r k ?_⟩
  obtain ⟨-, d, rfl, -, hP⟩ := hF
  cases d <;> walk_at "dl" <;> exact hP
theorem ok_is_between {f : Addr} {fd : FuncData} (F : Fun K "is_between" "is_between" s_is_between f fd)   {f_is_integer : Addr} {fd_is_integer : FuncData} {ps_is_integer : List Str} (D_is_integer : L2.Def P w K mg base 1 "is_integer" f_is_integer fd_is_integer ps_is_integer (SpF K F_is_integer))  : FnOk P w K mg base CX0 2 f fd ["thing", "least", "most"] (SpF K F_is_between) := by
  refine F.ok sc_is_between (fun vs H Q E h => ?_) (fun cdv A outer s H vs Q E hr h => ?_)
  · exact lenF h fun c g es P h => h.1
  obtain ⟨c, I, g, es, P, rfl, ok, r, hF, k⟩ := h
  have nd := sc_is_between.nd
  have hu := hr.units
  have hu1 := hu_of hr
  refine ⟨_, (pss_one (L2.ps_ret (pe_and (pe_call D_is_integer.ok (hr.mono (by first | decide | omega)) rfl D_is_integer.at_ D_is_integer.kp D_is_integer.bd .nil pass0 (pa_cons (pv 0) pa_nil)) (pe_one (pe_chain op_zle op_zle (pv 1) (pv 0) (pv 2)))))), body_run ok r k ?_⟩
  obtain ⟨-, d, a, b, rfl, hP⟩ := hF
  walk_at "dl"
  refine ite_b (fun hb => ?_) (fun hb => ?_)
  · obtain ⟨i, rfl⟩ := int_of hb
    walk_at "dl"
    refine ite_b (fun h1 => ?_) (fun h1 => ?_)
    · walk_at "dl"
      exact fin hP (by simp [isBtw, h1])
    · exact fin hP (by simp [isBtw, h1])
  · exact fin hP (by cases d <;> first | rfl | cases hb)
theorem ok_is_count {f : Addr} {fd : FuncData} (F : Fun K "is_count" "is_count" s_is_count f fd)   {f_is_integer : Addr} {fd_is_integer : FuncData} {ps_is_integer : List Str} (D_is_integer : L2.Def P w K mg base 1 "is_integer" f_is_integer fd_is_integer ps_is_integer (SpF K F_is_integer))  : FnOk P w K mg base CX0 2 f fd ["thing"] (SpF K F_is_count) := by
  refine F.ok sc_is_count (fun vs H Q E h => ?_) (fun cdv A outer s H vs Q E hr h => ?_)
  · exact lenF h fun c g es P h => h.1
  obtain ⟨c, I, g, es, P, rfl, ok, r, hF, k⟩ := h
  have nd := sc_is_count.nd
  have hu := hr.units
  have hu1 := hu_of hr
  refine ⟨_, (pss_one (L2.ps_ret (pe_and (pe_call D_is_integer.ok (hr.mono (by first | decide | omega)) rfl D_is_integer.at_ D_is_integer.kp D_is_integer.bd .nil pass0 (pa_cons (pv 0) pa_nil)) (pe_one (pe_cmpR op_ge (pv 0) pe_int (nomark _)))))), body_run ok r k ?_⟩
  obtain ⟨-, d, rfl, -, hP⟩ := hF
  walk_at "dl"
  refine ite_b (fun hb => ?_) (fun hb => ?_)
  · obtain ⟨i, rfl⟩ := int_of hb
    walk_at "dl"
    exact hP
  · exact fin hP (by cases d <;> first | rfl | cases hb)
theorem ok_is_tuple_of {f : Addr} {fd : FuncData} (F : Fun K "is_tuple_of" "is_tuple_of" s_is_tuple_of f fd)   (B : Blt mg)  : FnOk P w K mg base CX0 1 f fd ["thing", "many"] (SpF K F_is_tuple_of) := by
  refine F.ok sc_is_tuple_of (fun vs H Q E h => ?_) (fun cdv A outer s H vs Q E hr h => ?_)
  · exact lenF h fun c g es P h => h.1
  obtain ⟨c, I, g, es, P, rfl, ok, r, hF, k⟩ := h
  have nd := sc_is_tuple_of.nd
  have hu := hr.units
  have hu1 := hu_of hr
  refine ⟨_, (pss_one (L2.ps_ret (pe_and (pe_callB (cr_isi (K := c.K)) (by rfl) B.isinstance_ (by decide +kernel) (pa_cons (pv 0) (pa_cons (pe_bltn (v := .ty "tuple") (by rfl) B.tuple_ PyProof.Rows.boot_tuple rfl) pa_nil))) (pe_one (pe_cmpR (op_zeq (K := c.K) hu) (pe_callB (cr_len (K := c.K)) (by rfl) B.len_ PySem.boot_len (pa_cons (pv 0) pa_nil)) (pv 1) (nomark _)))))), body_run ok r k ?_⟩
  obtain ⟨-, d, n, rfl, hP⟩ := hF
  cases d <;> walk_at "dl" <;> exact hP
theorem ok_are_ascending {f : Addr} {fd : FuncData} (F : Fun K "are_ascending" "are_ascending" s_are_ascending f fd)   (B : Blt mg)  : FnOk P w K mg base CX0 1 f fd ["things"] (SpF K F_are_ascending) := by
  refine F.ok sc_are_ascending (fun vs H Q E h => ?_) (fun cdv A outer s H vs Q E hr h => ?_)
  · exact lenF h fun c g es P h => h.1
  obtain ⟨c, I, g, es, P, rfl, ok, r, hF, k⟩ := h
  have nd := sc_are_ascending.nd
  have hu := hr.units
  have hu1 := hu_of hr
  refine ⟨_, (pss_one (L2.ps_ret (pe_callB (cr_allZ (K := c.K) rfl) (by rfl) B.all_ (by decide +kernel) (pa_cons (pe_lc (own := [("at", 1)]) (g := gName 1) (tt := tYes) rfl nd (pi_range1 rfl B.range_ (pa_cons (pe_op op_sub (pe_callB (cr_len (K := c.K)) (by rfl) B.len_ PySem.boot_len (pa_cons (pv 0) pa_nil)) pe_int) pa_nil)) (blkOk_by (N := ["things", "at"]) (sc := defScope s_are_ascending) (by decide +kernel)) (fun _ _ _ _ _ => pg_name (i := 1) nd rfl (Or.inl rfl)) (fun _ _ _ _ _ => pts_nil) (fun _ _ _ _ _ => (pe_cmpR (op_zlt (K := c.K) hu) (pe_ix (ix_z (K := c.K) (w := w)) (pv 0) (pv 1) (fun _ _ => rfl)) (pe_ix (ix_z (K := c.K) (w := w)) (pv 0) (pe_op (op_zadd (K := c.K)) (pv 1) pe_int) (fun _ _ => rfl)) (nomark _)))) pa_nil)))), body_run ok r k ?_⟩
  obtain ⟨-, ds, he, hz, ha, hP⟩ := hF
  have hd : ((ds.length : Int) - 1).toNat = ds.length - 1 := by omega
  have key : ∀ i, i < ds.length - 1 → ∃ a b, ds[i]? = some a ∧ ds[i + 1]? = some b ∧ atI ds (i : Int) = some a ∧ atI ds ((i : Int) + 1) = some b := fun i hi => by
    refine ⟨ds[i]'(by omega), ds[i + 1]'(by omega), List.getElem?_eq_getElem _, List.getElem?_eq_getElem _, atI_nat (List.getElem?_eq_getElem _), ?_⟩
    rw [show ((i : Int) + 1) = ((i + 1 : Nat) : Int) by omega]; exact atI_nat (List.getElem?_eq_getElem _)
  rcases he with rfl | rfl
  · walk_at "dl"
    refine ⟨_, _, rfl, hd, by simp, by omega, by omega, ltAt ds, fun i hi => ?_, hP⟩
    obtain ⟨a, b, e1, e2, e3, e4⟩ := key i hi
    obtain ⟨h1, h2, h3⟩ := ha i a b e1 e2
    walk_at "dl"
    refine o_ixL e3 ?_
    walk_at "dl"
    refine o_ixL e4 ?_
    refine o_ltD h1 h2 h3 ?_
    exact ⟨by rw [ltAt, e1, e2], rfl⟩
  · walk_at "dl"
    refine ⟨_, _, rfl, hd, by simp, by omega, by omega, ltAt ds, fun i hi => ?_, hP⟩
    obtain ⟨a, b, e1, e2, e3, e4⟩ := key i hi
    obtain ⟨h1, h2, h3⟩ := ha i a b e1 e2
    walk_at "dl"
    refine o_ixT e3 ?_
    walk_at "dl"
    refine o_ixT e4 ?_
    refine o_ltD h1 h2 h3 ?_
    exact ⟨by rw [ltAt, e1, e2], rfl⟩
theorem ok_is_client {f : Addr} {fd : FuncData} (F : Fun K "is_client" "is_client" s_is_client f fd)   {t_MOST_CLIENTS : Tok} (C_MOST_CLIENTS : mg "MOST_CLIENTS" = some (.int 9 t_MOST_CLIENTS)) {f_is_between : Addr} {fd_is_between : FuncData} {ps_is_between : List Str} (D_is_between : L2.Def P w K mg base 2 "is_between" f_is_between fd_is_between ps_is_between (SpF K F_is_between))  : FnOk P w K mg base CX0 3 f fd ["thing"] (SpF K (FJ any' isClient)) := by
  refine F.ok sc_is_client (fun vs H Q E h => ?_) (fun cdv A outer s H vs Q E hr h => ?_)
  · exact lenF h fun c g es P h => h.1
  obtain ⟨c, I, g, es, P, rfl, ok, r, hF, k⟩ := h
  have nd := sc_is_client.nd
  have hu := hr.units
  have hu1 := hu_of hr
  refine ⟨_, (pss_one (L2.ps_ret (pe_call D_is_between.ok (hr.mono (by first | decide | omega)) rfl D_is_between.at_ D_is_between.kp D_is_between.bd .nil pass0 (pa_cons (pv 0) (pa_cons pe_int (pa_cons (pe_glob (v := .int 9) (by rfl) C_MOST_CLIENTS ⟨_, rfl⟩) pa_nil)))))), body_run ok r k ?_⟩
  obtain ⟨-, d, rfl, -, hP⟩ := hF
  walk_at "dl"
  exact hP
theorem ok_is_number {f : Addr} {fd : FuncData} (F : Fun K "is_number" "is_number" s_is_number f fd)   {f_is_integer : Addr} {fd_is_integer : FuncData} {ps_is_integer : List Str} (D_is_integer : L2.Def P w K mg base 1 "is_integer" f_is_integer fd_is_integer ps_is_integer (SpF K F_is_integer))  : FnOk P w K mg base CX0 2 f fd ["thing"] (SpF K (FJ any' isNumber)) := by
  refine F.ok sc_is_number (fun vs H Q E h => ?_) (fun cdv A outer s H vs Q E hr h => ?_)
  · exact lenF h fun c g es P h => h.1
  obtain ⟨c, I, g, es, P, rfl, ok, r, hF, k⟩ := h
  have nd := sc_is_number.nd
  have hu := hr.units
  have hu1 := hu_of hr
  refine ⟨_, (pss_one (L2.ps_ret (pe_and (pe_call D_is_integer.ok (hr.mono (by first | decide | omega)) rfl D_is_integer.at_ D_is_integer.kp D_is_integer.bd .nil pass0 (pa_cons (pv 0) pa_nil)) (pe_one (pe_cmpR op_ge (pv 0) pe_int (nomark _)))))), body_run ok r k ?_⟩
  obtain ⟨-, d, rfl, -, hP⟩ := hF
  walk_at "dl"
  refine ite_b (fun hb => ?_) (fun hb => ?_)
  · obtain ⟨i, rfl⟩ := int_of hb
    walk_at "dl"
    exact hP
  · exact fin hP (by cases d <;> first | rfl | cases hb)
theorem ok_is_name {f : Addr} {fd : FuncData} (F : Fun K "is_name" "is_name" s_is_name f fd)   (B : Blt mg) {t_MOST_IN_NAME : Tok} (C_MOST_IN_NAME : mg "MOST_IN_NAME" = some (.int 8 t_MOST_IN_NAME)) {t_SIGNS : Tok} (C_SIGNS : mg "SIGNS" = some (.str "abcdefghijklmnopqrstuvwxyz" t_SIGNS))  : FnOk P w K mg base CX0 1 f fd ["thing"] (SpF K (FJ fit isName)) := by
  refine F.ok sc_is_name (fun vs H Q E h => ?_) (fun cdv A outer s H vs Q E hr h => ?_)
  · exact lenF h fun c g es P h => h.1
  obtain ⟨c, I, g, es, P, rfl, ok, r, hF, k⟩ := h
  have nd := sc_is_name.nd
  have hu := hr.units
  have hu1 := hu_of hr
  refine ⟨_, (pss_one (L2.ps_ret (pe_and (pe_callB (cr_isi (K := c.K)) (by rfl) B.isinstance_ (by decide +kernel) (pa_cons (pv 0) (pa_cons (pe_bltn (v := .ty "str") (by rfl) B.str_ PyProof.Rows.boot_str rfl) pa_nil))) (pe_and (pe_chain op_zle op_zle pe_int (pe_callB (cr_len (K := c.K)) (by rfl) B.len_ PySem.boot_len (pa_cons (pv 0) pa_nil)) (pe_glob (v := .int 8) (by rfl) C_MOST_IN_NAME ⟨_, rfl⟩)) (pe_one (pe_callB (cr_allZ (K := c.K) rfl) (by rfl) B.all_ (by decide +kernel) (pa_cons (pe_lc (own := [("sign", 1)]) (g := gName 1) (tt := tYes) rfl nd (pi_str (pv 0)) (blkOk_by (N := ["thing", "sign"]) (sc := defScope s_is_name) (by decide +kernel)) (fun _ _ _ _ _ => pg_name (i := 1) nd rfl (Or.inl rfl)) (fun _ _ _ _ _ => pts_nil) (fun _ _ _ _ _ => (pe_cmpR op_zinS (pv 1) (pe_glob (v := .str "abcdefghijklmnopqrstuvwxyz") (by rfl) C_SIGNS ⟨_, rfl⟩) rfl))) pa_nil))))))), body_run ok r k ?_⟩
  obtain ⟨-, d, rfl, hf, hP⟩ := hF
  walk_at "dl"
  refine ite_b (fun hb => ?_) (fun hb => ?_)
  · obtain ⟨x, rfl⟩ := str_of hb
    have hz : x.length ≤ sizeLine := le_line (fit_str.mp hf).1
    walk_at "dl"
    refine ite_b (fun h1 => ?_) (fun h1 => ?_)
    · walk_at "dl"
      refine ite_b (fun h2 => ?_) (fun h2 => ?_)
      · walk_at "dl"
        refine ⟨by simp, (fit_str.mp hf).1, fun n => decide (n ∈ lows.cps.toList), fun n hn => ?_, fin hP (by simp only [isName, h1, h2, Bool.true_and])⟩
        walk_at "dl"
        exact ⟨rfl, rfl⟩
      · exact fin hP (by simp only [isName, h1, h2, Bool.true_and, Bool.false_and])
    · walk_at "dl"
      exact fin hP (by simp only [isName, h1, Bool.false_and])
  · exact fin hP (by cases d <;> first | rfl | cases hb)
theorem ok_is_text {f : Addr} {fd : FuncData} (F : Fun K "is_text" "is_text" s_is_text f fd)   (B : Blt mg) {t_MOST_IN_TEXT : Tok} (C_MOST_IN_TEXT : mg "MOST_IN_TEXT" = some (.int 96 t_MOST_IN_TEXT))  : FnOk P w K mg base CX0 1 f fd ["thing"] (SpF K (FJ fit isText)) := by
  refine F.ok sc_is_text (fun vs H Q E h => ?_) (fun cdv A outer s H vs Q E hr h => ?_)
  · exact lenF h fun c g es P h => h.1
  obtain ⟨c, I, g, es, P, rfl, ok, r, hF, k⟩ := h
  have nd := sc_is_text.nd
  have hu := hr.units
  have hu1 := hu_of hr
  refine ⟨_, (pss_one (L2.ps_ret (pe_and (pe_callB (cr_isi (K := c.K)) (by rfl) B.isinstance_ (by decide +kernel) (pa_cons (pv 0) (pa_cons (pe_bltn (v := .ty "str") (by rfl) B.str_ PyProof.Rows.boot_str rfl) pa_nil))) (pe_and (pe_cmpR op_zle (pe_callB (cr_len (K := c.K)) (by rfl) B.len_ PySem.boot_len (pa_cons (pv 0) pa_nil)) (pe_glob (v := .int 96) (by rfl) C_MOST_IN_TEXT ⟨_, rfl⟩) (nomark _)) (pe_one (pe_callB (cr_allZ (K := c.K) rfl) (by rfl) B.all_ (by decide +kernel) (pa_cons (pe_lc (own := [("sign", 1)]) (g := gName 1) (tt := tYes) rfl nd (pi_str (pv 0)) (blkOk_by (N := ["thing", "sign"]) (sc := defScope s_is_text) (by decide +kernel)) (fun _ _ _ _ _ => pg_name (i := 1) nd rfl (Or.inl rfl)) (fun _ _ _ _ _ => pts_nil) (fun _ _ _ _ _ => (pe_chain op_zle op_zle pe_str (pv 1) pe_str))) pa_nil))))))), body_run ok r k ?_⟩
  obtain ⟨-, d, rfl, hf, hP⟩ := hF
  walk_at "dl"
  refine ite_b (fun hb => ?_) (fun hb => ?_)
  · obtain ⟨x, rfl⟩ := str_of hb
    have hz : x.length ≤ sizeLine := le_line (fit_str.mp hf).1
    walk_at "dl"
    refine ite_b (fun h1 => ?_) (fun h1 => ?_)
    · walk_at "dl"
      refine ⟨by simp, (fit_str.mp hf).1, isSign, fun n hn => ?_, fin hP (by simp only [isText, h1, Bool.true_and])⟩
      walk_at "dl"
      rw [sign_lo]
      refine ite_b (fun h2 => ?_) (fun h2 => ?_)
      · walk_at "dl"
        refine ⟨?_, rfl⟩
        rw [sign_hi]
        simp only [isSign, h2, Bool.true_and]
      · refine ⟨?_, rfl⟩
        simp only [isSign, h2, Bool.false_and]
    · exact fin hP (by simp only [isText, h1, Bool.false_and])
  · exact fin hP (by cases d <;> first | rfl | cases hb)
theorem ok_is_stamp {f : Addr} {fd : FuncData} (F : Fun K "is_stamp" "is_stamp" s_is_stamp f fd) {a_FIRST_STAMP : Addr} (C_FIRST_STAMP : mg "FIRST_STAMP" = some (.ref a_FIRST_STAMP)) (Z_FIRST_STAMP : ∀ I, Dp K I (.ref a_FIRST_STAMP) (.tuple [(.int 0), (.int 0), (.int 0)]))  (B : Blt mg) {f_is_tuple_of : Addr} {fd_is_tuple_of : FuncData} {ps_is_tuple_of : List Str} (D_is_tuple_of : L2.Def P w K mg base 1 "is_tuple_of" f_is_tuple_of fd_is_tuple_of ps_is_tuple_of (SpF K F_is_tuple_of)) {f_is_count : Addr} {fd_is_count : FuncData} {ps_is_count : List Str} (D_is_count : L2.Def P w K mg base 2 "is_count" f_is_count fd_is_count ps_is_count (SpF K F_is_count)) {f_is_number : Addr} {fd_is_number : FuncData} {ps_is_number : List Str} (D_is_number : L2.Def P w K mg base 2 "is_number" f_is_number fd_is_number ps_is_number (SpF K (FJ any' isNumber))) {f_is_client : Addr} {fd_is_client : FuncData} {ps_is_client : List Str} (D_is_client : L2.Def P w K mg base 3 "is_client" f_is_client fd_is_client ps_is_client (SpF K (FJ any' isClient)))  : FnOk P w K mg base CX0 4 f fd ["thing"] (SpF K (FJ fit isStamp)) := by
  refine F.ok sc_is_stamp (fun vs H Q E h => ?_) (fun cdv A outer s H vs Q E hr h => ?_)
  · exact lenF h fun c g es P h => h.1
  obtain ⟨c, I, g, es, P, rfl, ok, r, hF, k⟩ := h
  have nd := sc_is_stamp.nd
  have hu := hr.units
  have hu1 := hu_of hr
  refine ⟨_, (pss_cons (L2.ps_if (PW.pt (pw_or (pt_not (pt_val (pe_call D_is_tuple_of.ok (hr.mono (by first | decide | omega)) rfl D_is_tuple_of.at_ D_is_tuple_of.kp D_is_tuple_of.bd .nil pass0 (pa_cons (pv 0) (pa_cons pe_int pa_nil))))) (pw_or1 (pt_not (pt_val (pe_callB (cr_allZ (K := c.K) rfl) (by rfl) B.all_ (by decide +kernel) (pa_cons (pe_lc (own := [("one", 1)]) (g := gName 1) (tt := tYes) rfl nd (pi_tupZ (K := c.K) (pv 0)) (blkOk_by (N := ["thing", "one"]) (sc := defScope s_is_stamp) (by decide +kernel)) (fun _ _ _ _ _ => pg_name (i := 1) nd rfl (Or.inl rfl)) (fun _ _ _ _ _ => pts_nil) (fun _ _ _ _ _ => (pe_call D_is_count.ok (hr.mono (by first | decide | omega)) rfl D_is_count.at_ D_is_count.kp D_is_count.bd .nil pass0 (pa_cons (pv 1) pa_nil)))) pa_nil))))))) (pss_one (L2.ps_ret pe_bl)) pss_nil)
      (pss_one (L2.ps_ret (pe_or (pe_cmpR (op_zeq (K := c.K) hu) (pv 0) (pe_glob (v := .ref a_FIRST_STAMP) (by rfl) C_FIRST_STAMP rfl) (nomark _)) (pe_one (pe_and (pe_call D_is_number.ok (hr.mono (by first | decide | omega)) rfl D_is_number.at_ D_is_number.kp D_is_number.bd .nil pass0 (pa_cons (pe_ix (ix_z (K := c.K) (w := w)) (pv 0) pe_int (fun _ _ => rfl)) pa_nil)) (pe_and (pe_call D_is_client.ok (hr.mono (by first | decide | omega)) rfl D_is_client.at_ D_is_client.kp D_is_client.bd .nil pass0 (pa_cons (pe_ix (ix_z (K := c.K) (w := w)) (pv 0) pe_int (fun _ _ => rfl)) pa_nil)) (pe_one (pe_call D_is_number.ok (hr.mono (by first | decide | omega)) rfl D_is_number.at_ D_is_number.kp D_is_number.bd .nil pass0 (pa_cons (pe_ix (ix_z (K := c.K) (w := w)) (pv 0) pe_int (fun _ _ => rfl)) pa_nil)))))))))), body_run ok r k ?_⟩
  obtain ⟨-, d, rfl, hf, hP⟩ := hF
  walk_at "dl"
  refine ite_b (fun hb => ?_) (fun hb => ?_)
  · walk_at "dl"
    exact fin hP (stamp_not3 (by simpa using hb)).symm
  · obtain ⟨a, b, n, rfl⟩ := tup3_of (by simpa using hb)
    walk_at "dl"
    refine ⟨by simp, (show 3 ≤ 1000000 by decide), isCount, fun x hx => ?_, ?_⟩
    · walk_at "dl"
      exact ⟨rfl, rfl⟩
    · walk_at "dl"
      refine ite_b (fun h1 => ?_) (fun h1 => ?_)
      · walk_at "dl"
        exact fin hP (stamp_no (Bool.not_eq_true' _ ▸ h1)).symm
      · have h1' : (isCount a && isCount b && isCount n) = true := by
          have q : [a, b, n].all isCount = true := by cases z : [a, b, n].all isCount <;> simp [z] at h1 ⊢
          simpa [Bool.and_assoc] using q
        obtain ⟨i, j, k, rfl, rfl, rfl, hi, hj, hk⟩ := counts3 h1'
        walk_at "dl"
        refine o_eq hf (by decide +kernel) (by simp [PyData.depth, PyData.depthAll]) (by decide +kernel) ?_
        walk_at "dl"
        refine ite_b (fun h2 => ?_) (fun h2 => ?_)
        · exact fin hP (stamp_first h2).symm
        · walk_at "dl"
          refine ite_b (fun h3 => ?_) (fun h3 => ?_)
          · walk_at "dl"
            refine ite_b (fun h4 => ?_) (fun h4 => ?_)
            · walk_at "dl"
              exact fin hP (by rw [stamp_eq hi hj hk h2, h3, h4]; rfl)
            · exact fin hP (by rw [stamp_eq hi hj hk h2, h3, h4]; rfl)
          · exact fin hP (by rw [stamp_eq hi hj hk h2, h3]; rfl)
theorem ok_is_base {f : Addr} {fd : FuncData} (F : Fun K "is_base" "is_base" s_is_base f fd)   {f_is_stamp : Addr} {fd_is_stamp : FuncData} {ps_is_stamp : List Str} (D_is_stamp : L2.Def P w K mg base 4 "is_stamp" f_is_stamp fd_is_stamp ps_is_stamp (SpF K (FJ fit isStamp)))  : FnOk P w K mg base CX0 5 f fd ["thing"] (SpF K (FJ fit isBase)) := by
  refine F.ok sc_is_base (fun vs H Q E h => ?_) (fun cdv A outer s H vs Q E hr h => ?_)
  · exact lenF h fun c g es P h => h.1
  obtain ⟨c, I, g, es, P, rfl, ok, r, hF, k⟩ := h
  have nd := sc_is_base.nd
  have hu := hr.units
  have hu1 := hu_of hr
  refine ⟨_, (pss_one (L2.ps_ret (pe_or (pe_cmpR op_isN (pv 0) pe_non (nomark _)) (pe_one (pe_call D_is_stamp.ok (hr.mono (by first | decide | omega)) rfl D_is_stamp.at_ D_is_stamp.kp D_is_stamp.bd .nil pass0 (pa_cons (pv 0) pa_nil)))))), body_run ok r k ?_⟩
  obtain ⟨-, d, rfl, hf, hP⟩ := hF
  cases d <;> walk_at "dl" <;> exact hP
theorem ok_has_word {f : Addr} {fd : FuncData} (F : Fun K "has_word" "has_word" s_has_word f fd)   (B : Blt mg)  : FnOk P w K mg base CX0 1 f fd ["thing"] (SpF K (FJ any' isWord)) := by
  refine F.ok sc_has_word (fun vs H Q E h => ?_) (fun cdv A outer s H vs Q E hr h => ?_)
  · exact lenF h fun c g es P h => h.1
  obtain ⟨c, I, g, es, P, rfl, ok, r, hF, k⟩ := h
  have nd := sc_has_word.nd
  have hu := hr.units
  have hu1 := hu_of hr
  refine ⟨_, (pss_one (L2.ps_ret (pe_and (pe_callB (cr_isi (K := c.K)) (by rfl) B.isinstance_ (by decide +kernel) (pa_cons (pv 0) (pa_cons (pe_bltn (v := .ty "tuple") (by rfl) B.tuple_ PyProof.Rows.boot_tuple rfl) pa_nil))) (pe_and (pe_cmpR op_gt (pe_callB (cr_len (K := c.K)) (by rfl) B.len_ PySem.boot_len (pa_cons (pv 0) pa_nil)) pe_int (nomark _)) (pe_one (pe_callB (cr_isi (K := c.K)) (by rfl) B.isinstance_ (by decide +kernel) (pa_cons (pe_ix (ix_z (K := c.K) (w := w)) (pv 0) pe_int (fun _ _ => rfl)) (pa_cons (pe_bltn (v := .ty "str") (by rfl) B.str_ PyProof.Rows.boot_str rfl) pa_nil)))))))), body_run ok r k ?_⟩
  obtain ⟨-, d, rfl, -, hP⟩ := hF
  walk_at "dl"
  refine ite_b (fun hb => ?_) (fun hb => ?_)
  · obtain ⟨x, rfl⟩ := tup_of hb
    walk_at "dl"
    cases x with
    | nil => walk_at "dl"; exact hP
    | cons y ys =>
      refine ite_t (decide_eq_true (by simp only [List.length_cons]; omega)) ?_
      walk_at "dl"
      exact fin hP (by cases y <;> rfl)
  · exact fin hP (by cases d <;> first | rfl | cases hb)
theorem ok_bare_sheet {f : Addr} {fd : FuncData} (F : Fun K "bare_sheet" "bare_sheet" s_bare_sheet f fd) {a_BARE_SHEET : Addr} (C_BARE_SHEET : mg "BARE_SHEET" = some (.ref a_BARE_SHEET)) (Z_BARE_SHEET : ∀ I, Dp K I (.ref a_BARE_SHEET) (.tuple [(.int 0), (.int 0), (.tuple [])]))    : FnOk P w K mg base CX0 1 f fd [] (SpF K F_bare_sheet) := by
  refine F.ok sc_bare_sheet (fun vs H Q E h => ?_) (fun cdv A outer s H vs Q E hr h => ?_)
  · exact lenF h fun c g es P h => h.1
  obtain ⟨c, I, g, es, P, rfl, ok, r, hF, k⟩ := h
  have nd := sc_bare_sheet.nd
  have hu := hr.units
  have hu1 := hu_of hr
  refine ⟨_, (pss_one (L2.ps_ret (pe_glob (v := .ref a_BARE_SHEET) (by rfl) C_BARE_SHEET rfl))), body_run ok r k ?_⟩
  obtain ⟨-, rfl, hP⟩ := hF
  walk_at "dl"
  exact hP
end Pr

set_option Elab.async false
set_option linter.all false
set_option autoImplicit false
set_option maxRecDepth 100000
set_option maxHeartbeats 4000000
namespace Pr
open PySem PySem.Spec PyProof.Rows L2 Dl
local macro_rules | `(tactic| walk_at "dl1") => `(tactic| first
  | (with_reducible refine ps_seq ?_)
  | (with_reducible refine ps_ret ?_)
  | (with_reducible refine ps_if ?_)
  | (with_reducible refine ps_set ?_)
  | (with_reducible refine ps_next ?_)
  | (with_reducible refine ps_drop ?_)
  | ((with_reducible refine' pv_var ?k1 ?_); (case k1 => rfl))
  | (with_reducible refine pv_int ?_)
  | (with_reducible refine pv_str ?_)
  | (with_reducible refine pv_bl ?_)
  | (with_reducible refine pv_non ?_)
  | (with_reducible refine pv_and ?_)
  | (with_reducible refine pv_or ?_)
  | (with_reducible refine pv_not ?_)
  | (with_reducible refine pv_if ?_)
  | (with_reducible refine pv_op ?_)
  | (with_reducible refine pv_un ?_)
  | (with_reducible refine pv_chain ?_)
  | (with_reducible refine pv_tup ?_)
  | (with_reducible refine pv_lst2 ?_)
  | (with_reducible refine pv_call ?_)
  | (with_reducible refine pv_allT ?_)
  | (with_reducible refine pv_allS ?_)
  | (with_reducible refine pv_allR ?_)
  | (with_reducible refine pv_lcT ?_)
  | (with_reducible refine pv_lcL ?_)
  | (with_reducible refine pv_lcTF ?_)
  | (with_reducible refine pv_listRg2 ?_)
  | (with_reducible refine pv_cb ?_)
  | (with_reducible refine pv_sl ?_)
  | (with_reducible refine pp_none ?_)
  | (with_reducible refine pp_some ?_)
  | (with_reducible refine pas_nil ?_)
  | (with_reducible refine pas_cons ?_)
  | (with_reducible refine pb_test' ?_)
  | (with_reducible refine pb_B ?_)
  | (with_reducible refine pb_and ?_)
  | (with_reducible refine pb_or ?_)
  | (with_reducible refine pb_not ?_)
  | (with_reducible refine oc_isi (isT_int _) ?_)
  | (with_reducible refine oc_isi (isT_bool _) ?_)
  | (with_reducible refine oc_isi (isT_str _) ?_)
  | (with_reducible refine oc_isi (isT_tuple _) ?_)
  | (with_reducible refine oc_isi (isT_list _) ?_)
  | (with_reducible refine oc_lenT ?_)
  | (with_reducible refine oc_lenL ?_)
  | (with_reducible refine oc_lenR ?_)
  | (with_reducible refine o_add ?_)
  | (with_reducible refine o_ii ?_)
  | (with_reducible refine o_ib ?_)
  | (with_reducible refine o_le ?_)
  | (with_reducible refine o_lt ?_)
  | (with_reducible refine o_eqI ?_)
  | (with_reducible refine o_neI ?_)
  | (with_reducible refine o_eqS ?_)
  | (with_reducible refine o_eqB ?_)
  | (with_reducible refine o_neB ?_)
  | ((with_reducible refine' pv_const ?k1 ?_); (case k1 => assumption))
  | (with_reducible refine pv_raw ?_)
  | ((with_reducible refine oc_lenS ?k1 ?_); (case k1 => assumption))
  | (with_reducible refine o_leS ?_)
  | (with_reducible refine o_inS ?_)
  | ((with_reducible refine' o_isN ?k1 ?_); (case k1 => rfl))
  | ((with_reducible refine' o_notN ?k1 ?_); (case k1 => rfl))
  | (with_reducible refine o_isntB ?_)
  | ((with_reducible refine' o_ixT ?k1 ?_); (case k1 => first | exact at0 | exact at1 | rfl))
  | (with_reducible refine os_tup ?_)
  | ((with_reducible refine ite_t ?k1 ?_); (case k1 => rfl))
  | ((with_reducible refine ite_f ?k1 ?_); (case k1 => rfl))
  | ((with_reducible refine use_FJ ?k1 ?_); (case k1 => first | rfl | assumption))
  | (with_reducible refine use_is_between ?_)
  | (with_reducible refine use_is_tuple_of ?_)
  | (refine Or.inl (Exists.intro _ (And.intro rfl (And.intro (le_line (Nat.le_of_ble_eq_true rfl)) ?_))))
  | (refine Or.inr (Exists.intro _ (And.intro rfl (And.intro (le_line (Nat.le_of_ble_eq_true rfl)) ?_))))
  | (with_reducible refine Exists.intro _ (And.intro rfl ?_))
  | ((with_reducible refine And.intro ?k1 ?_); (case k1 => exact le_line (Nat.le_of_ble_eq_true rfl))))
local macro_rules | `(tactic| walk_at "dl") => `(tactic| repeat walk_at "dl1")

variable {P : Program} {w : World} {K : PySem.W.Frag} {mg : Str → Option Value} {base : Heap}
theorem ok_are_all {f : Addr} {fd : FuncData} (F : Fun K "are_all" "are_all" s_are_all f fd)  {k : Nat} {tab : Tab} (HS : ∀ f sp, judgeS K tab f = some sp → L2.Held P w K mg base k f sp) (B : Blt mg)  : FnOk P w K mg base CX0 (k+1) f fd ["things", "tests"] (SpF K (F_are_all tab)) := by
  refine F.ok sc_are_all (fun vs H Q E h => ?_) (fun cdv A outer s H vs Q E hr h => ?_)
  · exact lenF h fun c g es P h => h.1
  obtain ⟨c, I, g, es, P, rfl, ok, r, hF, k⟩ := h
  have nd := sc_are_all.nd
  have hu := hr.units
  have hu1 := hu_of hr
  refine ⟨_, (pss_one (L2.ps_ret (pe_and (pe_cmpR (op_zeq (K := c.K) hu) (pe_callB (cr_len (K := c.K)) (by rfl) B.len_ PySem.boot_len (pa_cons (pv 0) pa_nil)) (pe_callB (cr_len (K := c.K)) (by rfl) B.len_ PySem.boot_len (pa_cons (pv 1) pa_nil)) (nomark _)) (pe_one (pe_callB (cr_allZ (K := c.K) rfl) (by rfl) B.all_ (by decide +kernel) (pa_cons (pe_lc (own := [("test", 2), ("one", 3)])  (tt := tYes) rfl nd (pi_zipZ (K := c.K) (by rfl) B.zip_ (pa_cons (pv 1) (pa_cons (pv 0) pa_nil))) (blkOk_by (N := ["things", "tests", "test", "one"]) (sc := defScope s_are_all) (by decide +kernel)) (fun _ _ _ _ _ => (pg_tupZ (n := 2) (K := c.K) rfl (pgs_cons (pg_name (i := 2) nd rfl (Or.inl rfl)) (pgs_cons (pg_name (i := 3) nd rfl (Or.inl rfl)) pgs_nil)))) (fun _ _ _ _ _ => pts_nil) (fun _ _ _ _ _ => (pe_callA (i := 2) (S := judgeS c.K tab) HS (hr.mono (by first | decide | omega)) rfl (by first | exact Or.inl rfl | exact Or.inr (Or.inl rfl) | exact Or.inr (Or.inr rfl)) (pa_cons (pv 3) pa_nil)))) pa_nil)))))), body_run ok r k ?_⟩
  obtain ⟨-, ds, fs, ps, rfl, hj, hf, hP⟩ := hF
  have hl : fs.length = ps.length := paired_len hj
  walk_at "dl"
  refine ite_b (fun hb => ?_) (fun hb => ?_)
  · have hb' : ds.length = ps.length := by have := of_decide_eq_true hb; omega
    refine pv_one (pv_all (js := [2, 3]) (pit_zipRT ?_))
    walk_at "dl"
    refine ⟨fs, ds, rfl, by simp, lt_line (Nat.le_trans (Nat.min_le_right _ _) (fit_tup.mp hf).1), judgeAt ps ds, fun i hi => ?_, ?_⟩
    · have hi1 : i < fs.length := by omega
      have hi2 : i < ds.length := by omega
      have hi3 : i < ps.length := by omega
      obtain ⟨p, hp, a, ha, ht⟩ := judges_get hj (List.getElem?_eq_getElem hi1)
      rw [zipR_at (by rw [List.getElem?_map, List.getElem?_eq_getElem hi1]; rfl) (by rw [List.getElem?_map, List.getElem?_eq_getElem hi2]; rfl)]
      rw [ha]
      refine pv_callA (F := FJ fit p) rfl (by rw [judgeS, ht]; rfl) ?_
      walk_at "dl"
      refine use_FJ ((fit_tup.mp hf).2 _ (List.getElem_mem hi2)) ?_
      refine ⟨?_, rfl⟩
      rw [judgeAt, hp, List.getElem?_eq_getElem hi2]
    · rw [hl, allP_range hb']
      exact hP
  · exact fin hP (allP_ne (by intro e; rw [hl, e] at hb; simp at hb))
theorem ok_is_edit {f : Addr} {fd : FuncData} (F : Fun K "is_edit" "is_edit" s_is_edit f fd) {a_EDITS : Addr} (C_EDITS : mg "EDITS" = some (.ref a_EDITS)) {es_EDITS : Array DictEntry} {n_EDITS : Nat} (K_EDITS : KDict K w a_EDITS es_EDITS n_EDITS) {tab : Tab} (T : TabK K w tab a_EDITS editTests) {f_has_word : Addr} {fd_has_word : FuncData} {ps_has_word : List Str} (D_has_word : L2.Def P w K mg base 1 "has_word" f_has_word fd_has_word ps_has_word (SpF K (FJ any' isWord))) {f_are_all : Addr} {fd_are_all : FuncData} {ps_are_all : List Str} (D_are_all : L2.Def P w K mg base 4 "are_all" f_are_all fd_are_all ps_are_all (SpF K (F_are_all tab)))  : FnOk P w K mg base CX0 5 f fd ["thing"] (SpF K (FJ fit isEdit)) := by
  refine F.ok sc_is_edit (fun vs H Q E h => ?_) (fun cdv A outer s H vs Q E hr h => ?_)
  · exact lenF h fun c g es P h => h.1
  obtain ⟨c, I, g, es, P, rfl, ok, r, hF, k⟩ := h
  have nd := sc_is_edit.nd
  have hu := hr.units
  have hu1 := hu_of hr
  refine ⟨_, (pss_one (L2.ps_ret (pe_and (pe_call D_has_word.ok (hr.mono (by first | decide | omega)) rfl D_has_word.at_ D_has_word.kp D_has_word.bd .nil pass0 (pa_cons (pv 0) pa_nil)) (pe_and (pe_cmpR (op_inK (K := c.K) K_EDITS) (pe_ix (ix_z (K := c.K) (w := w)) (pv 0) pe_int (fun _ _ => rfl)) (pe_glob (v := .ref a_EDITS) (by rfl) C_EDITS rfl) rfl) (pe_one (pe_call D_are_all.ok (hr.mono (by first | decide | omega)) rfl D_are_all.at_ D_are_all.kp D_are_all.bd .nil pass0 (pa_cons (pe_slice (sl_z (K := c.K)) (pv 0) (po_some pe_int) po_none) (pa_cons (pe_ix (ix_z (K := c.K) (w := w)) (pe_glob (v := .ref a_EDITS) (by rfl) C_EDITS rfl) (pe_ix (ix_z (K := c.K) (w := w)) (pv 0) pe_int (fun _ _ => rfl)) (fun _ _ => rfl)) pa_nil)))))))), body_run ok r k ?_⟩
  obtain ⟨-, d, rfl, hf, hP⟩ := hF
  walk_at "dl"
  refine ite_b (fun hb => ?_) (fun hb => ?_)
  · obtain ⟨z, rr, rfl⟩ := word_of hb
    walk_at "dl"
    cases e : editTests z with
    | none =>
      refine o_inK (T.no z e) ?_
      walk_at "dl"
      exact fin hP (byWord_none e)
    | some ps =>
      obtain ⟨t, fs, h1, h2, h3, h4⟩ := T.yes z ps e
      refine o_inK h1 ?_
      walk_at "dl"
      refine o_ixDT h2 h3 ?_
      walk_at "dl"
      rw [cut_tail]
      exact ⟨rfl, rr, fs, ps, rfl, h4, fit_tail hf, fin hP (byWord_some e)⟩
  · exact fin hP (byWord_word hb)
theorem ok_are_rows {f : Addr} {fd : FuncData} (F : Fun K "are_rows" "are_rows" s_are_rows f fd)  {k : Nat} {tab : Tab} (h1k : 1 ≤ k) (B : Blt mg) {f_are_all : Addr} {fd_are_all : FuncData} {ps_are_all : List Str} (D_are_all : L2.Def P w K mg base k "are_all" f_are_all fd_are_all ps_are_all (SpF K (F_are_all tab))) {f_are_ascending : Addr} {fd_are_ascending : FuncData} {ps_are_ascending : List Str} (D_are_ascending : L2.Def P w K mg base 1 "are_ascending" f_are_ascending fd_are_ascending ps_are_ascending (SpF K F_are_ascending))  : FnOk P w K mg base CX0 (k+1) f fd ["thing", "tests", "size"] (SpF K (F_are_rows tab)) := by
  refine F.ok sc_are_rows (fun vs H Q E h => ?_) (fun cdv A outer s H vs Q E hr h => ?_)
  · exact lenF h fun c g es P h => h.1
  obtain ⟨c, I, g, es, P, rfl, ok, r, hF, k⟩ := h
  have nd := sc_are_rows.nd
  have hu := hr.units
  have hu1 := hu_of hr
  refine ⟨_, (pss_cons (L2.ps_if (pt_not (pt_val (pe_callB (cr_isi (K := c.K)) (by rfl) B.isinstance_ (by decide +kernel) (pa_cons (pv 0) (pa_cons (pe_bltn (v := .ty "tuple") (by rfl) B.tuple_ PyProof.Rows.boot_tuple rfl) pa_nil))))) (pss_one (L2.ps_ret pe_bl)) pss_nil)
      (pss_cons (L2.ps_if (pt_not (pt_val (pe_callB (cr_allZ (K := c.K) rfl) (by rfl) B.all_ (by decide +kernel) (pa_cons (pe_lc (own := [("row", 3)]) (g := gName 3) (tt := tYes) rfl nd (pi_tupZ (K := c.K) (pv 0)) (blkOk_by (N := ["thing", "tests", "size", "row"]) (sc := defScope s_are_rows) (by decide +kernel)) (fun _ _ _ _ _ => pg_name (i := 3) nd rfl (Or.inl rfl)) (fun _ _ _ _ _ => pts_nil) (fun _ _ _ _ _ => (pe_and (pe_callB (cr_isi (K := c.K)) (by rfl) B.isinstance_ (by decide +kernel) (pa_cons (pv 3) (pa_cons (pe_bltn (v := .ty "tuple") (by rfl) B.tuple_ PyProof.Rows.boot_tuple rfl) pa_nil))) (pe_one (pe_call D_are_all.ok (hr.mono (by first | decide | omega)) rfl D_are_all.at_ D_are_all.kp D_are_all.bd .nil pass0 (pa_cons (pv 3) (pa_cons (pv 1) pa_nil))))))) pa_nil)))) (pss_one (L2.ps_ret pe_bl)) pss_nil)
      (pss_one (L2.ps_ret (pe_call D_are_ascending.ok (hr.mono (by first | decide | omega)) rfl D_are_ascending.at_ D_are_ascending.kp D_are_ascending.bd .nil pass0 (pa_cons (pe_lc (own := [("row", 3)]) (g := gName 3) (tt := tYes) rfl nd (pi_tupZ (K := c.K) (pv 0)) (blkOk_by (N := ["thing", "tests", "size", "row"]) (sc := defScope s_are_rows) (by decide +kernel)) (fun _ _ _ _ _ => pg_name (i := 3) nd rfl (Or.inl rfl)) (fun _ _ _ _ _ => pts_nil) (fun _ _ _ _ _ => (pe_slice (sl_z (K := c.K)) (pv 3) po_none (po_some (pv 2))))) pa_nil)))))), body_run ok r k ?_⟩
  obtain ⟨-, d, fs, ps, n, rfl, hj, hf, hr', hP⟩ := hF
  walk_at "dl"
  refine ite_b (fun hb => ?_) (fun hb => ?_)
  · walk_at "dl"
    exact fin hP (rows_not (by simpa using hb))
  · obtain ⟨rows, rfl⟩ := tup_of (d := d) (by simpa using hb)
    walk_at "dl"
    have hz := (fit_tup.mp hf).1
    refine ⟨by simp, hz, isRow ps, fun x hx => ?_, ?_⟩
    · walk_at "dl"
      refine ite_b (fun hb => ?_) (fun hb => ?_)
      · obtain ⟨xs, rfl⟩ := tup_of hb
        walk_at "dl"
        exact ⟨rfl, xs, fs, ps, rfl, hj, (fit_tup.mp hf).2 _ hx, rfl, rfl⟩
      · refine ⟨?_, rfl⟩
        rw [row_not hb]
    · walk_at "dl"
      refine ite_b (fun h1 => ?_) (fun h1 => ?_)
      · walk_at "dl"
        exact fin hP (rows_bad (by simpa using h1))
      · have h1' : rows.all (isRow ps) = true := by simpa using h1
        walk_at "dl"
        refine ⟨by simp, hz, cutT n, fun x hx => ?_, ?_⟩
        · obtain ⟨xs, ex, _⟩ := row_of (List.all_eq_true.mp h1' _ hx)
          subst ex
          walk_at "dl"
          exact ⟨by rw [cut_take]; rfl, rfl⟩
        · walk_at "dl"
          exact ⟨rfl, rows.map (cutT n), .inl rfl, by rw [List.length_map]; exact hz, rows_alike h1' hr', fin hP (rows_good h1')⟩
end Pr

set_option Elab.async false
set_option linter.all false
set_option autoImplicit false
set_option maxRecDepth 100000
set_option maxHeartbeats 4000000
namespace Pr
open PySem PySem.Spec PyProof.Rows L2 Dl
local macro_rules | `(tactic| walk_at "dl1") => `(tactic| first
  | (with_reducible refine ps_seq ?_)
  | (with_reducible refine ps_ret ?_)
  | (with_reducible refine ps_if ?_)
  | (with_reducible refine ps_set ?_)
  | (with_reducible refine ps_next ?_)
  | (with_reducible refine ps_drop ?_)
  | ((with_reducible refine' pv_var ?k1 ?_); (case k1 => rfl))
  | (with_reducible refine pv_int ?_)
  | (with_reducible refine pv_str ?_)
  | (with_reducible refine pv_bl ?_)
  | (with_reducible refine pv_non ?_)
  | (with_reducible refine pv_and ?_)
  | (with_reducible refine pv_or ?_)
  | (with_reducible refine pv_not ?_)
  | (with_reducible refine pv_if ?_)
  | (with_reducible refine pv_op ?_)
  | (with_reducible refine pv_un ?_)
  | (with_reducible refine pv_chain ?_)
  | (with_reducible refine pv_tup ?_)
  | (with_reducible refine pv_lst2 ?_)
  | (with_reducible refine pv_call ?_)
  | (with_reducible refine pv_allT ?_)
  | (with_reducible refine pv_allS ?_)
  | (with_reducible refine pv_allR ?_)
  | (with_reducible refine pv_lcT ?_)
  | (with_reducible refine pv_lcL ?_)
  | (with_reducible refine pv_lcTF ?_)
  | (with_reducible refine pv_listRg2 ?_)
  | (with_reducible refine pv_cb ?_)
  | (with_reducible refine pv_sl ?_)
  | (with_reducible refine pp_none ?_)
  | (with_reducible refine pp_some ?_)
  | (with_reducible refine pas_nil ?_)
  | (with_reducible refine pas_cons ?_)
  | (with_reducible refine pb_test' ?_)
  | (with_reducible refine pb_B ?_)
  | (with_reducible refine pb_and ?_)
  | (with_reducible refine pb_or ?_)
  | (with_reducible refine pb_not ?_)
  | (with_reducible refine oc_isi (isT_int _) ?_)
  | (with_reducible refine oc_isi (isT_bool _) ?_)
  | (with_reducible refine oc_isi (isT_str _) ?_)
  | (with_reducible refine oc_isi (isT_tuple _) ?_)
  | (with_reducible refine oc_isi (isT_list _) ?_)
  | (with_reducible refine oc_lenT ?_)
  | (with_reducible refine oc_lenL ?_)
  | (with_reducible refine oc_lenR ?_)
  | (with_reducible refine o_add ?_)
  | (with_reducible refine o_ii ?_)
  | (with_reducible refine o_ib ?_)
  | (with_reducible refine o_le ?_)
  | (with_reducible refine o_lt ?_)
  | (with_reducible refine o_eqI ?_)
  | (with_reducible refine o_neI ?_)
  | (with_reducible refine o_eqS ?_)
  | (with_reducible refine o_eqB ?_)
  | (with_reducible refine o_neB ?_)
  | ((with_reducible refine' pv_const ?k1 ?_); (case k1 => assumption))
  | (with_reducible refine pv_raw ?_)
  | ((with_reducible refine oc_lenS ?k1 ?_); (case k1 => assumption))
  | (with_reducible refine o_leS ?_)
  | (with_reducible refine o_inS ?_)
  | ((with_reducible refine' o_isN ?k1 ?_); (case k1 => rfl))
  | ((with_reducible refine' o_notN ?k1 ?_); (case k1 => rfl))
  | (with_reducible refine o_isntB ?_)
  | ((with_reducible refine' o_ixT ?k1 ?_); (case k1 => first | exact at0 | exact at1 | rfl))
  | (with_reducible refine os_tup ?_)
  | ((with_reducible refine ite_t ?k1 ?_); (case k1 => rfl))
  | ((with_reducible refine ite_f ?k1 ?_); (case k1 => rfl))
  | ((with_reducible refine use_FJ ?k1 ?_); (case k1 => first | rfl | assumption))
  | (with_reducible refine use_is_between ?_)
  | (with_reducible refine use_is_tuple_of ?_)
  | (refine Or.inl (Exists.intro _ (And.intro rfl (And.intro (le_line (Nat.le_of_ble_eq_true rfl)) ?_))))
  | (refine Or.inr (Exists.intro _ (And.intro rfl (And.intro (le_line (Nat.le_of_ble_eq_true rfl)) ?_))))
  | (with_reducible refine Exists.intro _ (And.intro rfl ?_))
  | ((with_reducible refine And.intro ?k1 ?_); (case k1 => exact le_line (Nat.le_of_ble_eq_true rfl))))
local macro_rules | `(tactic| walk_at "dl") => `(tactic| repeat walk_at "dl1")

variable {P : Program} {w : World} {K : PySem.W.Frag} {mg : Str → Option Value} {base : Heap}
theorem ok_is_sheet {f : Addr} {fd : FuncData} (F : Fun K "is_sheet" "is_sheet" s_is_sheet f fd)  {tab : Tab} (B : Blt mg) {t_BOOT : Tok} (C_BOOT : mg "BOOT" = some (.int 0 t_BOOT)) {t_NUMBER : Tok} (C_NUMBER : mg "NUMBER" = some (.int 1 t_NUMBER)) {t_PENDING : Tok} (C_PENDING : mg "PENDING" = some (.int 2 t_PENDING)) {f_is_tuple_of : Addr} {fd_is_tuple_of : FuncData} {ps_is_tuple_of : List Str} (D_is_tuple_of : L2.Def P w K mg base 1 "is_tuple_of" f_is_tuple_of fd_is_tuple_of ps_is_tuple_of (SpF K F_is_tuple_of)) {f_is_count : Addr} {fd_is_count : FuncData} {ps_is_count : List Str} (D_is_count : L2.Def P w K mg base 2 "is_count" f_is_count fd_is_count ps_is_count (SpF K F_is_count)) {f_are_rows : Addr} {fd_are_rows : FuncData} {ps_are_rows : List Str} (D_are_rows : L2.Def P w K mg base 7 "are_rows" f_are_rows fd_are_rows ps_are_rows (SpF K (F_are_rows tab))) {f_is_number : Addr} {fd_is_number : FuncData} {ps_is_number : List Str} (D_is_number : L2.Def P w K mg base 2 "is_number" f_is_number fd_is_number ps_is_number (SpF K (FJ any' isNumber))) {f_is_name : Addr} {fd_is_name : FuncData} {ps_is_name : List Str} (D_is_name : L2.Def P w K mg base 1 "is_name" f_is_name fd_is_name ps_is_name (SpF K (FJ fit isName))) {f_is_base : Addr} {fd_is_base : FuncData} {ps_is_base : List Str} (D_is_base : L2.Def P w K mg base 5 "is_base" f_is_base fd_is_base ps_is_base (SpF K (FJ fit isBase))) {f_is_edit : Addr} {fd_is_edit : FuncData} {ps_is_edit : List Str} (D_is_edit : L2.Def P w K mg base 5 "is_edit" f_is_edit fd_is_edit ps_is_edit (SpF K (FJ fit isEdit))) (J1 : tab f_is_number = some isNumber) (J2 : tab f_is_name = some isName) (J3 : tab f_is_base = some isBase) (J4 : tab f_is_edit = some isEdit) : FnOk P w K mg base CX0 8 f fd ["thing"] (SpF K (FJ fit isSheet)) := by
  refine F.ok sc_is_sheet (fun vs H Q E h => ?_) (fun cdv A outer s H vs Q E hr h => ?_)
  · exact lenF h fun c g es P h => h.1
  obtain ⟨c, I, g, es, P, rfl, ok, r, hF, k⟩ := h
  have nd := sc_is_sheet.nd
  have hu := hr.units
  have hu1 := hu_of hr
  refine ⟨_, (pss_cons (L2.ps_if (PW.pt (pw_or (pt_not (pt_val (pe_call D_is_tuple_of.ok (hr.mono (by first | decide | omega)) rfl D_is_tuple_of.at_ D_is_tuple_of.kp D_is_tuple_of.bd .nil pass0 (pa_cons (pv 0) (pa_cons pe_int pa_nil))))) (pw_or (pt_not (pt_val (pe_call D_is_count.ok (hr.mono (by first | decide | omega)) rfl D_is_count.at_ D_is_count.kp D_is_count.bd .nil pass0 (pa_cons (pe_ix (ix_z (K := c.K) (w := w)) (pv 0) (pe_glob (v := .int 0) (by rfl) C_BOOT ⟨_, rfl⟩) (fun _ _ => rfl)) pa_nil)))) (pw_or1 (pt_not (pt_val (pe_call D_is_count.ok (hr.mono (by first | decide | omega)) rfl D_is_count.at_ D_is_count.kp D_is_count.bd .nil pass0 (pa_cons (pe_ix (ix_z (K := c.K) (w := w)) (pv 0) (pe_glob (v := .int 1) (by rfl) C_NUMBER ⟨_, rfl⟩) (fun _ _ => rfl)) pa_nil)))))))) (pss_one (L2.ps_ret pe_bl)) pss_nil)
      (pss_cons (L2.ps_if (pt_not (pt_val (pe_call D_are_rows.ok (hr.mono (by first | decide | omega)) rfl D_are_rows.at_ D_are_rows.kp D_are_rows.bd .nil pass0 (pa_cons (pe_ix (ix_z (K := c.K) (w := w)) (pv 0) (pe_glob (v := .int 2) (by rfl) C_PENDING ⟨_, rfl⟩) (fun _ _ => rfl)) (pa_cons (pe_lst (pa_cons (pe_glob (v := .ref f_is_number) (by rfl) D_is_number.at_ rfl) (pa_cons (pe_glob (v := .ref f_is_name) (by rfl) D_is_name.at_ rfl) (pa_cons (pe_glob (v := .ref f_is_base) (by rfl) D_is_base.at_ rfl) (pa_cons (pe_glob (v := .ref f_is_edit) (by rfl) D_is_edit.at_ rfl) pa_nil))))) (pa_cons pe_int pa_nil)))))) (pss_one (L2.ps_ret pe_bl)) pss_nil)
      (pss_cons (ps_setLc (i := 1) (own := [("write", 2)]) (g := gName 2) (tt := tYes) rfl nd rfl rfl (sw_true rfl rfl rfl (by decide +kernel)) (pi_tupZ (K := c.K) (pe_ix (ix_z (K := c.K) (w := w)) (pv 0) (pe_glob (v := .int 2) (by rfl) C_PENDING ⟨_, rfl⟩) (fun _ _ => rfl))) (blkOk_by (N := ["thing", "numbers", "write", "first"]) (sc := defScope s_is_sheet) (by decide +kernel)) (fun _ _ _ _ _ => pg_name (i := 2) nd rfl (Or.inl rfl)) (fun _ _ _ _ _ => pts_nil) (fun _ _ _ _ _ => (pe_ix (ix_z (K := c.K) (w := w)) (pv 2) pe_int (fun _ _ => rfl))))
      (pss_cons (L2.ps_set (i := 3) nd rfl (Or.inl rfl) (pe_op (op_zadd (K := c.K)) (pe_op op_sub (pe_ix (ix_z (K := c.K) (w := w)) (pv 0) (pe_glob (v := .int 1) (by rfl) C_NUMBER ⟨_, rfl⟩) (fun _ _ => rfl)) (pe_callB (cr_len (K := c.K)) (by rfl) B.len_ PySem.boot_len (pa_cons (pv 1) pa_nil))) pe_int))
      (pss_one (L2.ps_ret (pe_or (pe_and (pe_cmpR op_ge (pv 3) pe_int (nomark _)) (pe_one (pe_cmpR (op_zeq (K := c.K) hu) (pv 1) (pe_listRg rfl (by rfl) B.list_ (prg_2 (by rfl) B.range_ (pv 3) (pe_op (op_zadd (K := c.K)) (pe_ix (ix_z (K := c.K) (w := w)) (pv 0) (pe_glob (v := .int 1) (by rfl) C_NUMBER ⟨_, rfl⟩) (fun _ _ => rfl)) pe_int))) (nomark _)))) (pe_one (pe_cmpR (op_zeq (K := c.K) hu) (pe_callB (cr_len (K := c.K)) (by rfl) B.len_ PySem.boot_len (pa_cons (pv 1) pa_nil)) pe_int (nomark _)))))))))), body_run ok r k ?_⟩
  obtain ⟨-, d, rfl, hf, hP⟩ := hF
  walk_at "dl"
  refine ite_b (fun hb => ?_) (fun hb => ?_)
  · walk_at "dl"
    exact fin hP (sheet_not3 (by simpa using hb))
  · obtain ⟨b, n, p, rfl⟩ := tup3_of (d := d) (by simpa using hb)
    have hfp : fit p = true := (fit_tup.mp hf).2 p (by simp)
    have hfn : fit n = true := (fit_tup.mp hf).2 n (by simp)
    walk_at "dl"
    refine ite_b (fun h1 => ?_) (fun h1 => ?_)
    · walk_at "dl"
      exact fin hP (by rw [isSheet]; simp at h1; rw [h1, Bool.false_and, Bool.false_and])
    · walk_at "dl"
      refine ite_b (fun h2 => ?_) (fun h2 => ?_)
      · walk_at "dl"
        exact fin hP (by rw [isSheet]; simp at h2; rw [h2, Bool.and_false, Bool.false_and])
      · walk_at "dl"
        have h1' : isCount b = true := by simpa using h1
        have h2' : isCount n = true := by simpa using h2
        refine ⟨rfl, p, _, sheetTests, 1, rfl, .cons ⟨_, rfl, J1⟩ (.cons ⟨_, rfl, J2⟩ (.cons ⟨_, rfl, J3⟩ (.cons ⟨_, rfl, J4⟩ .nil))), hfp, rowsOk_num, ?_⟩
        walk_at "dl"
        refine ite_b (fun h3 => ?_) (fun h3 => ?_)
        · walk_at "dl"
          exact fin hP (by rw [isSheet]; simp at h3; rw [h3, Bool.false_and, Bool.and_false])
        · have h3' : areRows sheetTests 1 p = true := by simpa using h3
          obtain ⟨rows, rfl, hrow⟩ := rows_tup h3'
          obtain ⟨N, rfl, hN⟩ := count_of h2'
          have hz := (fit_tup.mp hfp).1
          have hr := rowsOk_head hrow
          have hNi := fit_int.mp hfn
          walk_at "dl"
          refine ⟨by simp, hz, head0, fun x hx => ?_, ?_⟩
          · obtain ⟨i, xs, rfl, _⟩ := hr x hx
            walk_at "dl"
            exact ⟨rfl, rfl⟩
          · have hl : (rows.map head0).length = rows.length := List.length_map ..
            walk_at "dl"
            rw [hl]
            refine ite_b (fun h4 => ?_) (fun h4 => ?_)
            · have h4' := of_decide_eq_true h4
              walk_at "dl"
              refine ⟨_, _, rfl, rfl, ⟨by omega, by omega, by omega, by omega, by omega⟩, ?_⟩
              refine o_eq (fit_ints (by rw [hl]; exact hz) ?_) (fit_ints (by unfold intsD; rw [List.length_map, List.length_range]; omega) ?_) (depth_ints ?_) (depth_ints ?_) ?_
              · intro x hx
                obtain ⟨r', hr', rfl⟩ := List.mem_map.mp hx
                obtain ⟨i, xs, rfl, _⟩ := hr r' hr'
                have := fit_int.mp ((fit_tup.mp ((fit_tup.mp hfp).2 _ hr')).2 (.int i) (by simp))
                exact ⟨i, rfl, this.1, this.2⟩
              · intro x hx
                obtain ⟨i, rfl, h5, h6⟩ := intsD_int x hx
                exact ⟨i, rfl, by omega, by omega⟩
              · intro x hx
                obtain ⟨r', hr', rfl⟩ := List.mem_map.mp hx
                obtain ⟨i, xs, rfl, _⟩ := hr r' hr'
                exact ⟨i, rfl⟩
              · intro x hx
                obtain ⟨i, rfl, _⟩ := intsD_int x hx
                exact ⟨i, rfl⟩
              · walk_at "dl"
                refine ite_b (fun h5 => ?_) (fun h5 => ?_)
                · exact fin hP (by rw [sheet_eq h1' h2' h3', h4, h5]; rfl)
                · walk_at "dl"
                  rw [hl]
                  exact fin hP (by rw [sheet_eq h1' h2' h3', h4, h5]; rfl)
            · walk_at "dl"
              rw [hl]
              exact fin hP (by rw [sheet_eq h1' h2' h3', h4]; rfl)
theorem ok_check_sheet {f : Addr} {fd : FuncData} (F : Fun K "check_sheet" "check_sheet" s_check_sheet f fd)   {f_is_sheet : Addr} {fd_is_sheet : FuncData} {ps_is_sheet : List Str} (D_is_sheet : L2.Def P w K mg base 8 "is_sheet" f_is_sheet fd_is_sheet ps_is_sheet (SpF K (FJ fit isSheet)))  : FnOk P w K mg base CX0 9 f fd ["thing"] (SpF K F_check_sheet) := by
  refine F.ok sc_check_sheet (fun vs H Q E h => ?_) (fun cdv A outer s H vs Q E hr h => ?_)
  · exact lenF h fun c g es P h => h.1
  obtain ⟨c, I, g, es, P, rfl, ok, r, hF, k⟩ := h
  have nd := sc_check_sheet.nd
  have hu := hr.units
  have hu1 := hu_of hr
  refine ⟨_, (pss_one (L2.ps_if (pt_not (pt_val (pe_call D_is_sheet.ok (hr.mono (by first | decide | omega)) rfl D_is_sheet.at_ D_is_sheet.kp D_is_sheet.bd .nil pass0 (pa_cons (pv 0) pa_nil)))) (pss_one ps_never) pss_nil)), body_run ok r k ?_⟩
  obtain ⟨-, d, rfl, hf, hs, hP⟩ := hF
  walk_at "dl"
  refine ite_f (by rw [hs]; rfl) ?_
  walk_at "dl"
  exact hP
theorem ok_is_note {f : Addr} {fd : FuncData} (F : Fun K "is_note" "is_note" s_is_note f fd) {a_NOTES : Addr} (C_NOTES : mg "NOTES" = some (.ref a_NOTES)) {es_NOTES : Array DictEntry} {n_NOTES : Nat} (K_NOTES : KDict K w a_NOTES es_NOTES n_NOTES) {tab : Tab} (T : TabK K w tab a_NOTES noteTests) {f_has_word : Addr} {fd_has_word : FuncData} {ps_has_word : List Str} (D_has_word : L2.Def P w K mg base 1 "has_word" f_has_word fd_has_word ps_has_word (SpF K (FJ any' isWord))) {f_are_all : Addr} {fd_are_all : FuncData} {ps_are_all : List Str} (D_are_all : L2.Def P w K mg base 9 "are_all" f_are_all fd_are_all ps_are_all (SpF K (F_are_all tab)))  : FnOk P w K mg base CX0 10 f fd ["thing"] (SpF K (FJ fit isNote)) := by
  refine F.ok sc_is_note (fun vs H Q E h => ?_) (fun cdv A outer s H vs Q E hr h => ?_)
  · exact lenF h fun c g es P h => h.1
  obtain ⟨c, I, g, es, P, rfl, ok, r, hF, k⟩ := h
  have nd := sc_is_note.nd
  have hu := hr.units
  have hu1 := hu_of hr
  refine ⟨_, (pss_one (L2.ps_ret (pe_and (pe_call D_has_word.ok (hr.mono (by first | decide | omega)) rfl D_has_word.at_ D_has_word.kp D_has_word.bd .nil pass0 (pa_cons (pv 0) pa_nil)) (pe_and (pe_cmpR (op_inK (K := c.K) K_NOTES) (pe_ix (ix_z (K := c.K) (w := w)) (pv 0) pe_int (fun _ _ => rfl)) (pe_glob (v := .ref a_NOTES) (by rfl) C_NOTES rfl) rfl) (pe_one (pe_call D_are_all.ok (hr.mono (by first | decide | omega)) rfl D_are_all.at_ D_are_all.kp D_are_all.bd .nil pass0 (pa_cons (pe_slice (sl_z (K := c.K)) (pv 0) (po_some pe_int) po_none) (pa_cons (pe_ix (ix_z (K := c.K) (w := w)) (pe_glob (v := .ref a_NOTES) (by rfl) C_NOTES rfl) (pe_ix (ix_z (K := c.K) (w := w)) (pv 0) pe_int (fun _ _ => rfl)) (fun _ _ => rfl)) pa_nil)))))))), body_run ok r k ?_⟩
  obtain ⟨-, d, rfl, hf, hP⟩ := hF
  walk_at "dl"
  refine ite_b (fun hb => ?_) (fun hb => ?_)
  · obtain ⟨z, rr, rfl⟩ := word_of hb
    walk_at "dl"
    cases e : noteTests z with
    | none =>
      refine o_inK (T.no z e) ?_
      walk_at "dl"
      exact fin hP (byWord_none e)
    | some ps =>
      obtain ⟨t, fs, h1, h2, h3, h4⟩ := T.yes z ps e
      refine o_inK h1 ?_
      walk_at "dl"
      refine o_ixDT h2 h3 ?_
      walk_at "dl"
      rw [cut_tail]
      exact ⟨rfl, rr, fs, ps, rfl, h4, fit_tail hf, fin hP (byWord_some e)⟩
  · exact fin hP (byWord_word hb)
end Pr

set_option Elab.async false
set_option linter.all false
set_option autoImplicit false
set_option maxRecDepth 100000
set_option maxHeartbeats 4000000
namespace Pr
open PySem PySem.Spec PyProof.Rows L2 Dl
local macro_rules | `(tactic| walk_at "dl1") => `(tactic| first
  | (with_reducible refine ps_seq ?_)
  | (with_reducible refine ps_ret ?_)
  | (with_reducible refine ps_if ?_)
  | (with_reducible refine ps_set ?_)
  | (with_reducible refine ps_next ?_)
  | (with_reducible refine ps_drop ?_)
  | ((with_reducible refine' pv_var ?k1 ?_); (case k1 => rfl))
  | (with_reducible refine pv_int ?_)
  | (with_reducible refine pv_str ?_)
  | (with_reducible refine pv_bl ?_)
  | (with_reducible refine pv_non ?_)
  | (with_reducible refine pv_and ?_)
  | (with_reducible refine pv_or ?_)
  | (with_reducible refine pv_not ?_)
  | (with_reducible refine pv_if ?_)
  | (with_reducible refine pv_op ?_)
  | (with_reducible refine pv_un ?_)
  | (with_reducible refine pv_chain ?_)
  | (with_reducible refine pv_tup ?_)
  | (with_reducible refine pv_lst2 ?_)
  | (with_reducible refine pv_call ?_)
  | (with_reducible refine pv_allT ?_)
  | (with_reducible refine pv_allS ?_)
  | (with_reducible refine pv_allR ?_)
  | (with_reducible refine pv_lcT ?_)
  | (with_reducible refine pv_lcL ?_)
  | (with_reducible refine pv_lcTF ?_)
  | (with_reducible refine pv_listRg2 ?_)
  | (with_reducible refine pv_cb ?_)
  | (with_reducible refine pv_sl ?_)
  | (with_reducible refine pp_none ?_)
  | (with_reducible refine pp_some ?_)
  | (with_reducible refine pas_nil ?_)
  | (with_reducible refine pas_cons ?_)
  | (with_reducible refine pb_test' ?_)
  | (with_reducible refine pb_B ?_)
  | (with_reducible refine pb_and ?_)
  | (with_reducible refine pb_or ?_)
  | (with_reducible refine pb_not ?_)
  | (with_reducible refine oc_isi (isT_int _) ?_)
  | (with_reducible refine oc_isi (isT_bool _) ?_)
  | (with_reducible refine oc_isi (isT_str _) ?_)
  | (with_reducible refine oc_isi (isT_tuple _) ?_)
  | (with_reducible refine oc_isi (isT_list _) ?_)
  | (with_reducible refine oc_lenT ?_)
  | (with_reducible refine oc_lenL ?_)
  | (with_reducible refine oc_lenR ?_)
  | (with_reducible refine o_add ?_)
  | (with_reducible refine o_ii ?_)
  | (with_reducible refine o_ib ?_)
  | (with_reducible refine o_le ?_)
  | (with_reducible refine o_lt ?_)
  | (with_reducible refine o_eqI ?_)
  | (with_reducible refine o_neI ?_)
  | (with_reducible refine o_eqS ?_)
  | (with_reducible refine o_eqB ?_)
  | (with_reducible refine o_neB ?_)
  | ((with_reducible refine' pv_const ?k1 ?_); (case k1 => assumption))
  | (with_reducible refine pv_raw ?_)
  | ((with_reducible refine oc_lenS ?k1 ?_); (case k1 => assumption))
  | (with_reducible refine o_leS ?_)
  | (with_reducible refine o_inS ?_)
  | ((with_reducible refine' o_isN ?k1 ?_); (case k1 => rfl))
  | ((with_reducible refine' o_notN ?k1 ?_); (case k1 => rfl))
  | (with_reducible refine o_isntB ?_)
  | ((with_reducible refine' o_ixT ?k1 ?_); (case k1 => first | exact at0 | exact at1 | rfl))
  | (with_reducible refine os_tup ?_)
  | ((with_reducible refine ite_t ?k1 ?_); (case k1 => rfl))
  | ((with_reducible refine ite_f ?k1 ?_); (case k1 => rfl))
  | ((with_reducible refine use_FJ ?k1 ?_); (case k1 => first | rfl | assumption))
  | (with_reducible refine use_is_between ?_)
  | (with_reducible refine use_is_tuple_of ?_)
  | (refine Or.inl (Exists.intro _ (And.intro rfl (And.intro (le_line (Nat.le_of_ble_eq_true rfl)) ?_))))
  | (refine Or.inr (Exists.intro _ (And.intro rfl (And.intro (le_line (Nat.le_of_ble_eq_true rfl)) ?_))))
  | (with_reducible refine Exists.intro _ (And.intro rfl ?_))
  | ((with_reducible refine And.intro ?k1 ?_); (case k1 => exact le_line (Nat.le_of_ble_eq_true rfl))))
local macro_rules | `(tactic| walk_at "dl") => `(tactic| repeat walk_at "dl1")

variable {P : Program} {w : World} {K : PySem.W.Frag} {mg : Str → Option Value} {base : Heap}
theorem ok_raw_noted {f : Addr} {fd : FuncData} (F : Fun K "raw_noted" "raw_noted" s_raw_noted f fd)   (B : Blt mg)  : FnOk P w K mg base CX0 1 f fd ["sheet", "deed"] (SpF K F_raw_noted) := by
  refine F.ok sc_raw_noted (fun vs H Q E h => ?_) (fun cdv A outer s H vs Q E hr h => ?_)
  · exact lenF h fun c g es P h => h.1
  obtain ⟨c, I, g, es, P, rfl, ok, r, hF, k⟩ := h
  have nd := sc_raw_noted.nd
  have hu := hr.units
  have hu1 := hu_of hr
  refine ⟨_, (pss_cons (ps_asg (pv 0) (pg_tupZ (n := 3) (K := c.K) rfl (pgs_cons (pg_name (i := 2) nd rfl (Or.inl rfl)) (pgs_cons (pg_name (i := 3) nd rfl (Or.inl rfl)) (pgs_cons (pg_name (i := 4) nd rfl (Or.inl rfl)) pgs_nil)))))
      (pss_cons (ps_par (i := 5) (j := 6) rfl nd rfl rfl (by decide) rfl rfl (pa_cons (pe_ix (ix_z (K := c.K) (w := w)) (pv 1) pe_int (fun _ _ => rfl)) (pa_cons (pe_slice (sl_z (K := c.K)) (pv 1) (po_some pe_int) po_none) pa_nil)) (by rfl))
      (pss_cons (L2.ps_if (pt_cmpR (op_zeq (K := c.K) hu) (pv 5) pe_str (nomark _)) (pss_one (L2.ps_ret (pe_tup (pa_cons (pe_op (op_zadd (K := c.K)) (pv 2) pe_int) (pa_cons (pv 3) (pa_cons (pv 4) pa_nil)))))) pss_nil)
      (pss_cons (L2.ps_if (pt_cmpR (op_zeq (K := c.K) hu) (pv 5) pe_str (nomark _)) (pss_one (L2.ps_ret (pe_tup (pa_cons (pv 2) (pa_cons (pe_op (op_zadd (K := c.K)) (pv 3) pe_int) (pa_cons (pe_op (op_zadd (K := c.K)) (pv 4) (pe_tup (pa_cons (pe_op (op_zadd (K := c.K)) (pe_tup (pa_cons (pe_op (op_zadd (K := c.K)) (pv 3) pe_int) pa_nil)) (pv 6)) pa_nil))) pa_nil)))))) pss_nil)
      (pss_cons (L2.ps_if (pt_cmpR (op_zeq (K := c.K) hu) (pv 5) pe_str (nomark _)) (pss_one (L2.ps_ret (pe_tup (pa_cons (pv 2) (pa_cons (pv 3) (pa_cons (pe_ifExp (PW.pt (pw_and (pt_cmpR op_gt (pe_callB (cr_len (K := c.K)) (by rfl) B.len_ PySem.boot_len (pa_cons (pv 4) pa_nil)) pe_int (nomark _)) (pw_and1 (pt_cmpR (op_zeq (K := c.K) hu) (pe_ix (ix_z (K := c.K) (w := w)) (pe_ix (ix_z (K := c.K) (w := w)) (pv 4) pe_int (fun _ _ => rfl)) pe_int (fun _ _ => rfl)) (pe_ix (ix_z (K := c.K) (w := w)) (pv 6) pe_int (fun _ _ => rfl)) (nomark _))))) (pe_slice (sl_z (K := c.K)) (pv 4) (po_some pe_int) po_none) (pv 4)) pa_nil)))))) pss_nil)
      (pss_one (L2.ps_ret (pe_ix (ix_z (K := c.K) (w := w)) (pv 6) pe_int (fun _ _ => rfl))))))))), body_run ok r k ?_⟩
  obtain ⟨-, b, n, p, z, rest, rfl, hp, hr, hset, hne, hP⟩ := hF
  refine Dl.ps_seq (ps_un3 ?_)
  walk_at "dl"
  refine ⟨_, _, _, rfl, ?_⟩
  refine Dl.ps_seq (ps_par2 ?_)
  walk_at "dl"
  rw [cut_tail]
  refine ⟨_, _, rfl, ?_⟩
  walk_at "dl"
  refine ite_b (fun h1 => ?_) (fun h1 => ?_)
  · walk_at "dl"
    exact fin' hP (by unfold rawNoted; rw [if_pos (of_decide_eq_true h1)])
  · have n1 := of_decide_eq_false h1
    walk_at "dl"
    refine ite_b (fun h2 => ?_) (fun h2 => ?_)
    · walk_at "dl"
      refine o_addT (by show 1 + rest.length ≤ sizeLine; exact le_line (by omega)) ?_
      walk_at "dl"
      refine o_addT (by show p.length + 1 ≤ sizeLine; exact Nat.succ_le_of_lt (lt_line hp)) ?_
      walk_at "dl"
      exact fin' hP (by unfold rawNoted; rw [if_neg n1, if_pos (of_decide_eq_true h2)]; rfl)
    · have n2 := of_decide_eq_false h2
      walk_at "dl"
      refine ite_b (fun h3 => ?_) (fun h3 => ?_)
      · have e3 := of_decide_eq_true h3
        obtain ⟨⟨k', rfl⟩, hrow⟩ := hset e3
        cases p with
        | nil =>
          walk_at "dl"
          exact fin' hP (by unfold rawNoted; rw [if_neg n1, if_neg n2, if_pos e3]; rfl)
        | cons x xs =>
          obtain ⟨i, ys, rfl⟩ := hrow x (by simp)
          walk_at "dl"
          refine ite_t (decide_eq_true (by simp only [List.length_cons]; omega)) ?_
          walk_at "dl"
          refine ite_b (fun h4 => ?_) (fun h4 => ?_)
          · walk_at "dl"
            rw [cut_tail]
            exact fin' hP (by unfold rawNoted; rw [if_neg n1, if_neg n2, if_pos e3]; simp only [settles, h4, if_true]; rfl)
          · walk_at "dl"
            exact fin' hP (by unfold rawNoted; rw [if_neg n1, if_neg n2, if_pos e3]; simp only [settles, h4]; rfl)
      · have n3 := of_decide_eq_false h3
        cases rest with
        | nil => exact absurd rfl (hne n1)
        | cons x xs =>
          walk_at "dl"
          exact fin' hP (by unfold rawNoted; rw [if_neg n1, if_neg n2, if_neg n3]; rfl)
theorem ok_noted_behind {f : Addr} {fd : FuncData} (F : Fun K "noted_behind" "noted_behind" s_noted_behind f fd)   {f_check_sheet : Addr} {fd_check_sheet : FuncData} {ps_check_sheet : List Str} (D_check_sheet : L2.Def P w K mg base 9 "check_sheet" f_check_sheet fd_check_sheet ps_check_sheet (SpF K F_check_sheet)) {f_is_note : Addr} {fd_is_note : FuncData} {ps_is_note : List Str} (D_is_note : L2.Def P w K mg base 10 "is_note" f_is_note fd_is_note ps_is_note (SpF K (FJ fit isNote))) {f_raw_noted : Addr} {fd_raw_noted : FuncData} {ps_raw_noted : List Str} (D_raw_noted : L2.Def P w K mg base 1 "raw_noted" f_raw_noted fd_raw_noted ps_raw_noted (SpF K F_raw_noted))  : FnOk P w K mg base CX0 11 f fd ["sheet", "deed"] (SpF K F_noted_behind) := by
  refine F.ok sc_noted_behind (fun vs H Q E h => ?_) (fun cdv A outer s H vs Q E hr h => ?_)
  · exact lenF h fun c g es P h => h.1
  obtain ⟨c, I, g, es, P, rfl, ok, r, hF, k⟩ := h
  have nd := sc_noted_behind.nd
  have hu := hr.units
  have hu1 := hu_of hr
  refine ⟨_, (pss_cons (L2.ps_expr (pe_call D_check_sheet.ok (hr.mono (by first | decide | omega)) rfl D_check_sheet.at_ D_check_sheet.kp D_check_sheet.bd .nil pass0 (pa_cons (pv 0) pa_nil)))
      (pss_cons (L2.ps_if (pt_not (pt_val (pe_call D_is_note.ok (hr.mono (by first | decide | omega)) rfl D_is_note.at_ D_is_note.kp D_is_note.bd .nil pass0 (pa_cons (pv 1) pa_nil)))) (pss_one ps_never) pss_nil)
      (pss_one (L2.ps_ret (pe_call D_raw_noted.ok (hr.mono (by first | decide | omega)) rfl D_raw_noted.at_ D_raw_noted.kp D_raw_noted.bd .nil pass0 (pa_cons (pv 0) (pa_cons (pv 1) pa_nil))))))), body_run ok r k ?_⟩
  obtain ⟨-, sh, d, rfl, hfs, hfd, hs, hn, hP⟩ := hF
  obtain ⟨b, n, p, rfl, hrow⟩ := sheet_of hs
  obtain ⟨z, rest, rfl, hl, hset, hne⟩ := note_of hn
  walk_at "dl"
  refine ⟨rfl, _, rfl, hfs, hs, ?_⟩
  walk_at "dl"
  refine ite_f (by rw [hn]; rfl) ?_
  walk_at "dl"
  exact ⟨rfl, b, n, p, z, rest, rfl, (fit_tup.mp ((fit_tup.mp hfs).2 _ (by simp))).1, hl, fun e => ⟨hset e, hrow⟩, hne, hP⟩
end Pr

set_option Elab.async false
set_option linter.all false
set_option autoImplicit false
set_option maxRecDepth 100000
set_option maxHeartbeats 4000000
/-! Objects that change: a store tells the list or the dict at each of their addresses. -/
namespace Dl
open PySem PySem.Spec PyProof.Rows L2
inductive MO where
  | ml (es : List EV)
  | md (es : List (Key × EV))
abbrev Store := Addr → Option MO
def RelP (K : PySem.W.Frag) (I : Hp) (p : Key × V) (q : Key × EV) : Prop := p.1 = q.1 ∧ RelE K I p.2 q.2
def RelO (K : PySem.W.Frag) (I H : Hp) (a : Addr) : MO → Prop
  | .ml es => ∃ vs, H a = some (.lst vs) ∧ Paired (RelE K I) vs es
  | .md es => ∃ kvs, H a = some (.dK kvs) ∧ Paired (RelP K I) kvs es
theorem paired_imp {α β : Type} {R S : α → β → Prop} (i : ∀ x y, R x y → S x y) : ∀ {xs : List α} {ys : List β}, Paired R xs ys → Paired S xs ys
  | _, _, .nil => .nil
  | _, _, .cons h t => .cons (i _ _ h) (paired_imp i t)
theorem relO_ml {K : PySem.W.Frag} {I H : Hp} {a : Addr} {vs : List V} {es : List EV} (h1 : H a = some (.lst vs)) (h2 : Paired (RelE K I) vs es) : RelO K I H a (.ml es) := ⟨vs, h1, h2⟩
theorem relO_md {K : PySem.W.Frag} {I H : Hp} {a : Addr} {vs : List (Key × V)} {es : List (Key × EV)} (h1 : H a = some (.dK vs)) (h2 : Paired (RelP K I) vs es) : RelO K I H a (.md es) := ⟨vs, h1, h2⟩
theorem RelO.mono {K : PySem.W.Frag} {I I' H H' : Hp} {a : Addr} {o : MO} (x : Ex I I') (e : H' a = H a) (h : RelO K I H a o) : RelO K I' H' a o := by
  cases o with
  | ml es => obtain ⟨vs, h1, h2⟩ := h; exact ⟨vs, by rw [e]; exact h1, Paired.relMono x h2⟩
  | md es => obtain ⟨vs, h1, h2⟩ := h; exact ⟨vs, by rw [e]; exact h1, paired_imp (fun _ _ q => ⟨q.1, q.2.mono x⟩) h2⟩
theorem RelO.some {K : PySem.W.Frag} {I H : Hp} {a : Addr} {o : MO} (h : RelO K I H a o) : H a ≠ none := by
  cases o with
  | ml es => obtain ⟨vs, h1, h2⟩ := h; rw [h1]; simp
  | md es => obtain ⟨vs, h1, h2⟩ := h; rw [h1]; simp
/-- the context with a store -/
abbrev sC (K : PySem.W.Frag) : Ctx where
  K := K
  S := Store
  M g a := g a ≠ none
  J g I H := ∀ a o, g a = some o → RelO K I H a o
  jm := fun g I I' H H' j x k a o e => (j a o e).mono x (k a (by rw [e]; simp))
  mh := fun g I H a j m => by
    cases e : g a with
    | none => exact absurd e m
    | some o => exact (j a o e).some
def put (g : Store) (a : Addr) (o : MO) : Store := fun b => if b = a then some o else g b
theorem put_same {g : Store} {a : Addr} {o : MO} : put g a o a = some o := if_pos rfl
theorem put_ne {g : Store} {a b : Addr} {o : MO} (h : b ≠ a) : put g a o b = g b := if_neg h
section
variable {K : PySem.W.Frag} {I H : Hp} {g : Store} {a : Addr} {ho : HO} {o : MO}
theorem Ok.putM (k : Ok (sC K) I H g) (h : g a ≠ none) (r : RelO K I (upd H a ho) a o) : Ok (sC K) I (upd H a ho) (Dl.put g a o) := by
  refine ⟨fun b u e => ?_, fun b o' e => ?_, fun b m => ?_⟩
  · have ne : b ≠ a := fun z => by rw [z, k.out a h] at e; cases e
    rw [upd_ne ne]; exact k.ex b u e
  · by_cases z : b = a
    · rw [z, put_same] at e
      cases e
      rw [z]; exact r
    · rw [put_ne z] at e
      exact RelO.mono (Ex.refl I) (upd_ne z) (k.j b o' e)
  · by_cases z : b = a
    · rw [z]; exact k.out a h
    · have m' : Dl.put g a o b ≠ none := m
      rw [put_ne z] at m'
      exact k.out b m'
theorem Step.putM (h : g a ≠ none) : Step (sC K) I H g I (upd H a ho) (Dl.put g a o) := by
  refine ⟨Ex.refl I, fun b u e m => ?_, fun _ _ e => e, fun b m => ?_, fun b e => ?_⟩
  · have ne : b ≠ a := fun z => m (by show g b ≠ none; rw [z]; exact h)
    rw [upd_ne ne]; exact e
  · by_cases z : b = a
    · rw [z]; exact .inl h
    · have m' : Dl.put g a o b ≠ none := m
      rw [put_ne z] at m'
      exact .inl m'
  · by_cases z : b = a
    · rw [z, upd_same]; simp
    · rw [upd_ne z]; exact e
theorem Ok.newM (k : Ok (sC K) I H g) (h : H a = none) (r : RelO K I (upd H a ho) a o) : Ok (sC K) I (upd H a ho) (put g a o) := by
  have hg : g a = none := by
    cases e : g a with
    | none => rfl
    | some o => exact absurd h (k.j a o e).some
  refine ⟨fun b u e => ?_, fun b o' e => ?_, fun b m => ?_⟩
  · have ne : b ≠ a := fun z => by rw [z, k.free h] at e; cases e
    rw [upd_ne ne]; exact k.ex b u e
  · by_cases z : b = a
    · rw [z, put_same] at e
      cases e
      rw [z]; exact r
    · rw [put_ne z] at e
      exact RelO.mono (Ex.refl I) (upd_ne z) (k.j b o' e)
  · by_cases z : b = a
    · rw [z]; exact k.free h
    · have m' : Dl.put g a o b ≠ none := m
      rw [put_ne z] at m'
      exact k.out b m'
theorem Step.newM (h : H a = none) : Step (sC K) I H g I (upd H a ho) (put g a o) := by
  refine ⟨Ex.refl I, fun b u e m => ?_, fun _ _ e => e, fun b m => ?_, fun b e => ?_⟩
  · rw [upd_ne (ne_of_none e h)]; exact e
  · by_cases z : b = a
    · rw [z]; exact .inr h
    · have m' : Dl.put g a o b ≠ none := m
      rw [put_ne z] at m'
      exact .inl m'
  · have ne : b ≠ a := fun z => e (by rw [z]; exact h)
    rw [upd_ne ne]; exact e
end
theorem paired_at {K : PySem.W.Frag} {I : Hp} {es : List EV} {vs : List V} {i : Int} {e : EV} (h : Paired (RelE K I) vs es) (q : atI es i = some e) : ∃ v, atI vs i = some v ∧ RelE K I v e := by
  unfold atI at q ⊢
  rw [paired_len h]
  cases z : ixN es.length i with
  | none => rw [z] at q; cases q
  | some j =>
    rw [z] at q
    exact paired_get h q
theorem paired_set {α β : Type} {R : α → β → Prop} {x : α} {y : β} (r : R x y) : ∀ {j : Nat} {xs : List α} {ys : List β}, Paired R xs ys → Paired R (xs.set j x) (ys.set j y)
  | _, _, _, .nil => by simpa using Paired.nil
  | 0, _, _, .cons h t => .cons r t
  | j + 1, _, _, .cons h t => .cons h (paired_set r t)
theorem paired_app {α β : Type} {R : α → β → Prop} : ∀ {xs xs' : List α} {ys ys' : List β}, Paired R xs ys → Paired R xs' ys' → Paired R (xs ++ xs') (ys ++ ys')
  | _, _, _, _, .nil, k => k
  | _, _, _, _, .cons h t, k => .cons h (paired_app t k)
theorem paired_drop {α β : Type} {R : α → β → Prop} : ∀ (n : Nat) {xs : List α} {ys : List β}, Paired R xs ys → Paired R (xs.drop n) (ys.drop n)
  | 0, _, _, h => h
  | n + 1, _, _, .nil => .nil
  | n + 1, _, _, .cons h t => paired_drop n t
theorem paired_take {α β : Type} {R : α → β → Prop} : ∀ (n : Nat) {xs : List α} {ys : List β}, Paired R xs ys → Paired R (xs.take n) (ys.take n)
  | 0, _, _, _ => by simpa using Paired.nil
  | n + 1, _, _, .nil => .nil
  | n + 1, _, _, .cons h t => .cons h (paired_take n t)
theorem paired_dp {K : PySem.W.Frag} {I : Hp} : ∀ {ds : List PyData} {vs : List V}, Paired (RelE K I) vs (ds.map .d) → DpAll K I vs ds
  | [], _, h => by cases h; exact .nil
  | d :: ds, _, h => by
    cases h with
    | cons h1 h2 => exact .cons h1 (paired_dp h2)
theorem dp_paired {K : PySem.W.Frag} {I : Hp} : ∀ {ds : List PyData} {vs : List V}, DpAll K I vs ds → Paired (RelE K I) vs (ds.map .d)
  | [], _, h => by cases h; exact .nil
  | d :: ds, _, h => by
    cases h with
    | cons h1 h2 => exact .cons h1 (dp_paired h2)
/-! ### tables -/
def getA (es : List (Key × EV)) (k : Key) : Option EV := (es.find? fun p => decide (p.1 = k)).map (·.2)
def putA (es : List (Key × EV)) (k : Key) (v : EV) : List (Key × EV) :=
  if (es.any fun p => decide (p.1 = k)) = true then es.map (fun p => if p.1 = k then (p.1, v) else p) else es ++ [(k, v)]
theorem relP_get {K : PySem.W.Frag} {I : Hp} {k : Key} : ∀ {kvs : List (Key × V)} {es : List (Key × EV)} {e : EV}, Paired (RelP K I) kvs es → getA es k = some e → ∃ v, valV kvs k = some v ∧ RelE K I v e
  | _, _, _, .nil, q => by cases q
  | p :: _, x :: _, e, .cons h t, q => by
    by_cases z : p.1 = k
    · rw [getA, List.find?_cons, decide_eq_true (by rw [← h.1]; exact z)] at q
      cases q
      exact ⟨p.2, valV_pos z, h.2⟩
    · rw [getA, List.find?_cons, decide_eq_false (by rw [← h.1]; exact z)] at q
      obtain ⟨v, e1, e2⟩ := relP_get t q
      exact ⟨v, by rw [valV_neg z]; exact e1, e2⟩
theorem relP_any {K : PySem.W.Frag} {I : Hp} {k : Key} : ∀ {kvs : List (Key × V)} {es : List (Key × EV)}, Paired (RelP K I) kvs es → (kvs.any fun p => decide (p.1 = k)) = (es.any fun p => decide (p.1 = k))
  | _, _, .nil => rfl
  | p :: _, x :: _, .cons h t => by
    have e : p.1 = x.1 := h.1
    rw [List.any_cons, List.any_cons, relP_any t, e]
theorem relP_put {K : PySem.W.Frag} {I : Hp} {k : Key} {v : V} {e : EV} {kvs : List (Key × V)} {es : List (Key × EV)} (r : RelE K I v e) (h : Paired (RelP K I) kvs es) : Paired (RelP K I) (putK kvs k v) (putA es k e) := by
  unfold putK putA
  rw [relP_any h]
  split
  · have go : ∀ {kvs : List (Key × V)} {es : List (Key × EV)}, Paired (RelP K I) kvs es → Paired (RelP K I) (kvs.map (fun kv => if kv.1 = k then (kv.1, v) else kv)) (es.map (fun p => if p.1 = k then (p.1, e) else p)) := by
      intro kvs es h
      induction h with
      | nil => exact .nil
      | @cons p x ps xs h t ih =>
        refine .cons ?_ ih
        have e1 : p.1 = x.1 := h.1
        show RelP K I (if p.1 = k then (p.1, v) else p) (if x.1 = k then (x.1, e) else x)
        by_cases z : p.1 = k
        · rw [if_pos z, if_pos (by rw [← e1]; exact z)]; exact ⟨e1, r⟩
        · rw [if_neg z, if_neg (by rw [← e1]; exact z)]; exact h
    exact go h
  · exact paired_app h (.cons ⟨rfl, r⟩ .nil)
/-! ### rules -/
section
variable {K : PySem.W.Frag} {w : World} {g : Store} {P : EV → Store → Prop} {ρ : Rho} {te ta tb td ty tv : TE} {Pn : Rho → Store → Prop} {a : Addr}
theorem o_ixM {es : List EV} {i : Int} {e : EV} (hg : g a = some (.ml es)) (hi : atI es i = some e) (p : P e g) : O2 (sC K) (zIx (sC K).K w) (.r (.ref a)) (.d (.int i)) g P := fun I H xv yv ok rx ry Q k => by
  cases ry
  have rx' : xv = .ref a := rx
  subst rx'
  obtain ⟨vs, h1, h2⟩ := ok.j a _ hg
  obtain ⟨v, e1, r⟩ := paired_at h2 hi
  exact .inl (.inl ⟨a, vs, i, v, rfl, rfl, .inl (.inl h1), e1, k.here (e := e) ok r p⟩)
theorem oc_lenM {es : List EV} (hg : g a = some (.ml es)) (p : P (.d (.int es.length)) g) : OC (sC K) (zLen (sC K).K) [.r (.ref a)] g P := fun I H vs ok r Q k => by
  obtain ⟨v, e, r1⟩ := one_of r
  have r1' : v = .ref a := r1
  subst e r1'
  obtain ⟨vs, h1, h2⟩ := ok.j a _ hg
  exact ⟨_, es.length, rfl, .inl ⟨vs, .inl (.inl h1), (paired_len h2).symm⟩, k.here (e := .d (.int _)) ok (Dp.int _) p⟩
/-- a slice of a list of data that changes is data -/
theorem os_mut {ds : List PyData} {lo hi : Option Int} (hg : g a = some (.ml (ds.map .d))) (p : P (.d (.list (cutD ds lo hi))) g) : OSl (sC K) (zSl (sC K).K) (.r (.ref a)) lo hi g P := fun I H xv ok rx Q k => by
  have rx' : xv = .ref a := rx
  subst rx'
  obtain ⟨vs, h1, h2⟩ := ok.j a _ hg
  exact .inr (.inl ⟨a, vs, rfl, .inl (.inl h1), fun q hq => k _ (upd I q (.lst (cutV vs lo hi))) _ g (.d (.list _)) (Step.new ok hq) (ok.new hq) (Dp.lst (.inl (.inl upd_same)) (dpAll_mono (Ex.new (ok.free hq)) _ _ (dpAll_cut (paired_dp h2) lo hi))) p⟩)
/-- two lists that change, one behind the other: data -/
theorem o_catM {b : Addr} {ds es : List PyData} (hz : ds.length + es.length ≤ sizeLine) (hg : g a = some (.ml (ds.map .d))) (hb : g b = some (.ml (es.map .d))) (p : P (.d (.list (ds ++ es))) g) : O2 (sC K) (zAdd (sC K).K) (.r (.ref a)) (.r (.ref b)) g P := fun I H xv yv ok rx ry Q k => by
  have rx' : xv = .ref a := rx
  have ry' : yv = .ref b := ry
  subst rx' ry'
  obtain ⟨vs, h1, h2⟩ := ok.j a _ hg
  obtain ⟨us, h3, h4⟩ := ok.j b _ hb
  have a1 := paired_dp h2
  have a2 := paired_dp h4
  exact .inr (.inr (.inr ⟨a, b, vs, us, rfl, rfl, h1, h3, by rw [dpAll_len a1, dpAll_len a2]; exact hz, fun q hq => k _ (upd I q (.lst (vs ++ us))) _ g (.d (.list (ds ++ es))) (Step.new ok hq) (ok.new hq) (Dp.lst (.inl (.inl upd_same)) (dpAll_mono (Ex.new (ok.free hq)) _ _ (dpAll_append a1 a2))) p⟩))
/-- list(..) as an object that changes -/
theorem oc_listM {ds : List PyData} (p : ∀ q, g q = none → P (.r (.ref q)) (put g q (.ml (ds.map .d)))) : OC (sC K) (zList (sC K).K) [.d (.tuple ds)] g P := fun I H vs ok r Q k => by
  obtain ⟨v, e, r1⟩ := one_of r
  subst e
  cases r1 with
  | @tup a xs _ hx ax =>
    refine ⟨a, xs, rfl, .inr (ok.ex.seqT hx), fun q hq => k _ I _ _ (.r (.ref q)) (Step.newM hq) (ok.newM hq (relO_ml upd_same (dp_paired ax))) rfl (p q ?_)⟩
    cases e : g q with
    | none => rfl
    | some o => exact absurd hq (ok.j q o e).some
/-- a list display as an object that changes -/
theorem pv_lstM {tl : TA} (h : PAs (sC K) tl ρ g fun es g1 => es.length ≤ sizeLine ∧ ∀ q, g1 q = none → P (.r (.ref q)) (put g1 q (.ml es))) : PV (sC K) (tLst tl) ρ g P := fun σ I H ok en Q k =>
  h σ I H ok en _ fun vs I1 H1 g1 es s1 ok1 r1 ⟨hz, p1⟩ => by
    refine ⟨by rw [paired_len r1]; exact hz, fun q hq => k _ I1 _ _ (.r (.ref q)) (s1.trans (Step.newM hq)) (ok1.newM hq (relO_ml upd_same r1)) rfl (p1 q ?_)⟩
    cases e : g1 q with
    | none => rfl
    | some o => exact absurd hq (ok1.j q o e).some
theorem ps_setix {to ti : TE} {Pr : EV → Store → Prop} (h : PV (sC K) te ρ g fun e g1 => PV (sC K) to ρ g1 fun x g2 => PV (sC K) ti ρ g2 fun y g3 => ∃ a es i j, x = .r (.ref a) ∧ y = .d (.int i) ∧ g3 a = some (.ml es) ∧ ixN es.length i = some j ∧ Pn ρ (put g3 a (.ml (es.set j e)))) :
    PSt (sC K) (tAsg te (gSub to ti rSetL)) ρ g Pn Pr := fun σ I H ok en D kn kr =>
  h σ I H ok en _ fun v I1 H1 g1 e s1 ok1 r1 p1 => p1 σ I1 H1 ok1 (en.mono s1.im) _ fun u I2 H2 g2 x s2 ok2 r2 p2 => p2 σ I2 H2 ok2 (en.mono (s1.trans s2).im) _ fun t I3 H3 g3 y s3 ok3 r3 ⟨a, es, i, j, e1, e2, hg, hj, p3⟩ => by
    subst e1 e2
    cases r3
    have r2' : u = .ref a := r2
    subst r2'
    obtain ⟨vs, h1, h2⟩ := ok3.j a _ hg
    have ha : g3 a ≠ none := by rw [hg]; simp
    have re : RelE K I3 v e := r1.mono (s2.trans s3).im
    exact ⟨a, vs, i, j, rfl, rfl, h1, by rw [paired_len h2]; exact hj, kn σ I3 _ _ ρ (((s1.trans s2).trans s3).trans (Step.putM (K := K) (o := _) ha)) (ok3.putM ha (relO_ml upd_same (paired_set re h2))) (en.mono ((s1.trans s2).trans s3).im) p3⟩
theorem pv_append {tl : TA} (h : PV (sC K) te ρ g fun x g1 => ∃ a, x = .r (.ref a) ∧ (∃ es, g1 a = some (.ml es)) ∧ PAs (sC K) tl ρ g1 fun ys g2 => ∃ es y, ys = [y] ∧ g2 a = some (.ml es) ∧ es.length < sizeLine ∧ P (.d .none) (put g2 a (.ml (es ++ [y])))) :
    PV (sC K) (tBM (sC K).K "list" rAppend te tl) ρ g P := fun σ I H ok en Q k =>
  h σ I H ok en _ fun v I1 H1 g1 e s1 ok1 r1 ⟨a, e1, ⟨es0, hg0⟩, p1⟩ => by
    subst e1
    have r1' : v = .ref a := r1
    subst r1'
    obtain ⟨vs0, h0, _⟩ := ok1.j a _ hg0
    refine ⟨.inl ⟨rfl, vs0, .inl (.inl h0)⟩, p1 σ I1 H1 ok1 (en.mono s1.im) _ fun us I2 H2 g2 ys s2 ok2 r2 ⟨es, y, e2, hg, hz, p2⟩ => ?_⟩
    subst e2
    obtain ⟨u, e3, r3⟩ := one_of r2
    subst e3
    obtain ⟨vs, h1, h2⟩ := ok2.j a _ hg
    have ha : g2 a ≠ none := by rw [hg]; simp
    exact ⟨a, vs, u, rfl, rfl, h1, by rw [paired_len h2]; exact hz, k _ I2 _ _ (.d .none) ((s1.trans s2).trans (Step.putM (K := K) (o := _) ha)) (ok2.putM ha (relO_ml upd_same (paired_app h2 (.cons r3 .nil)))) Dp.non p2⟩
theorem pv_dget (h : PV (sC K) td ρ g fun x g1 => PV (sC K) ty ρ g1 fun y g2 => ∃ a es z e, x = .r (.ref a) ∧ y = .d (.str z) ∧ g2 a = some (.md es) ∧ getA es (.inr z) = some e ∧ P e g2) : PV (sC K) (tDGet td ty) ρ g P := fun σ I H ok en Q k =>
  h σ I H ok en _ fun v I1 H1 g1 x s1 ok1 r1 p1 => p1 σ I1 H1 ok1 (en.mono s1.im) _ fun u I2 H2 g2 y s2 ok2 r2 ⟨a, es, z, e, e1, e2, hg, he, p2⟩ => by
    subst e1 e2
    cases r2
    have r1' : v = .ref a := r1
    subst r1'
    obtain ⟨kvs, h1, h2⟩ := ok2.j a _ hg
    obtain ⟨v, hv, r⟩ := relP_get h2 he
    exact ⟨a, v, rfl, by rw [← hv]; exact DGet.k (k := .inr z) h1, k _ I2 H2 g2 e (s1.trans s2) ok2 r p2⟩
theorem ps_dput {Pr : EV → Store → Prop} (h : PV (sC K) tv ρ g fun e g1 => PV (sC K) td ρ g1 fun x g2 => PV (sC K) ty ρ g2 fun y g3 => ∃ a es z, x = .r (.ref a) ∧ y = .d (.str z) ∧ g3 a = some (.md es) ∧ es.length < sizeLine ∧ Pn ρ (put g3 a (.md (putA es (.inr z) e)))) :
    PSt (sC K) (sDPut td ty tv) ρ g Pn Pr := fun σ I H ok en D kn kr =>
  h σ I H ok en _ fun v I1 H1 g1 e s1 ok1 r1 p1 => p1 σ I1 H1 ok1 (en.mono s1.im) _ fun u I2 H2 g2 x s2 ok2 r2 p2 => p2 σ I2 H2 ok2 (en.mono (s1.trans s2).im) _ fun t I3 H3 g3 y s3 ok3 r3 ⟨a, es, z, e1, e2, hg, hz, p3⟩ => by
    subst e1 e2
    cases r3
    have r2' : u = .ref a := r2
    subst r2'
    obtain ⟨kvs, h1, h2⟩ := ok3.j a _ hg
    have ha : g3 a ≠ none := by rw [hg]; simp
    have re : RelE K I3 v e := r1.mono (s2.trans s3).im
    exact ⟨a, _, rfl, DPut.k (k := .inr z) h1 (by rw [paired_len h2]; exact hz), kn σ I3 _ _ ρ (((s1.trans s2).trans s3).trans (Step.putM (K := K) (o := _) ha)) (ok3.putM ha (relO_md upd_same (relP_put re h2))) (en.mono ((s1.trans s2).trans s3).im) p3⟩
/-! ### displays of tables -/
def PPr (c : Ctx) (t : L2.St → Hp → (List (V × V) → Hp → Prop) → Prop) (ρ : Rho) (g : c.S) (P : List (Key × EV) → c.S → Prop) : Prop := ∀ σ I H, Ok c I H g → EnvOk c.K I σ ρ → ∀ Q : List (V × V) → Hp → Prop,
  (∀ kvs I' H' g' es, Step c I H g I' H' g' → Ok c I' H' g' → Paired (RelP c.K I') kvs es → P es g' → Q (kvs.map fun kv => (kV kv.1, kv.2)) H') → t σ H Q
theorem pp_nil {c : Ctx} {g : c.S} {P : List (Key × EV) → c.S → Prop} (p : P [] g) : PPr c (tPairs []) ρ g P := fun σ I H ok en Q k => k [] I H g [] Step.refl ok .nil p
theorem pp_cons {c : Ctx} {g : c.S} {P : List (Key × EV) → c.S → Prop} {z : Str} {r : List (TE × TE)} (h : PV c tv ρ g fun e g1 => PPr c (tPairs r) ρ g1 fun es g2 => P ((.inr z, e) :: es) g2) : PPr c (tPairs ((tC (.str z), tv) :: r)) ρ g P := fun σ I H ok en Q k =>
  h σ I H ok en _ fun v I1 H1 g1 e s1 ok1 r1 p1 => p1 σ I1 H1 ok1 (en.mono s1.im) _ fun kvs I2 H2 g2 es s2 ok2 r2 p2 => k ((.inr z, v) :: kvs) I2 H2 g2 _ (s1.trans s2) ok2 (.cons ⟨rfl, r1.mono s2.im⟩ r2) p2
def mergeA (es : List (Key × EV)) : List (Key × EV) := es.foldl (fun acc kv => putA acc kv.1 kv.2) []
theorem relP_merge {K : PySem.W.Frag} {I : Hp} : ∀ {kvs : List (Key × V)} {es : List (Key × EV)}, Paired (RelP K I) kvs es → ∀ {k0 : List (Key × V)} {e0 : List (Key × EV)}, Paired (RelP K I) k0 e0 → Paired (RelP K I) (mergeK k0 kvs) (es.foldl (fun acc kv => putA acc kv.1 kv.2) e0)
  | _, _, .nil, _, _, h0 => h0
  | p :: _, x :: _, .cons h t, k0, e0, h0 => by
    have e1 : p.1 = x.1 := h.1
    refine relP_merge t (k0 := putK k0 p.1 p.2) (e0 := putA e0 x.1 x.2) ?_
    rw [e1]
    exact relP_put h.2 h0
theorem pv_disp {trs : List (TE × TE)} (h : PPr (sC K) (tPairs trs) ρ g fun es g1 => es.length ≤ 15 ∧ ∀ q, g1 q = none → P (.r (.ref q)) (put g1 q (.md (mergeA es)))) : PV (sC K) (tDisp trs) ρ g P := fun σ I H ok en Q k p hp => by
  refine h σ I (upd H p (.dK [])) (ok.grow hp) en _ fun kvs I1 H1 g1 es s1 ok1 r1 ⟨hl, p1⟩ => ?_
  have hg : g p = none := by
    cases e : g p with
    | none => rfl
    | some o => exact absurd hp (ok.j p o e).some
  have hg1 : g1 p = none := by
    cases e : g1 p with
    | none => rfl
    | some o =>
      rcases s1.mm p (by show g1 p ≠ none; rw [e]; simp) with q | q
      · exact absurd hg q
      · rw [upd_same] at q; cases q
  have hH : H1 p = some (.dK []) := s1.keep p _ upd_same (fun m => m hg)
  have hI : I1 p = none := s1.out p (by rw [upd_same]; simp) (ok.free hp)
  refine ⟨hH, kvs, rfl, by rw [paired_len r1]; exact hl, ?_⟩
  refine k _ I1 _ (put g1 p (.md (mergeA es))) (.r (.ref p)) ⟨s1.im, fun b o e m => ?_, fun b e n => s1.out b (by rw [upd_ne (fun z => e (by rw [z]; exact hp))]; exact e) n, fun b m => ?_, fun b e => ?_⟩ ⟨fun b u e => ?_, fun b o e => ?_, fun b m => ?_⟩ rfl (p1 p hg1)
  · have ne := ne_of_none e hp
    rw [upd_ne ne]
    exact s1.keep b o (by rw [upd_ne ne]; exact e) m
  · by_cases z : b = p
    · rw [z]; exact .inr hp
    · have m' : put g1 p (.md (mergeA es)) b ≠ none := m
      rw [put_ne z] at m'
      have := s1.mm b m'
      rwa [upd_ne z] at this
  · by_cases z : b = p
    · rw [z, upd_same]; simp
    · rw [upd_ne z]
      exact s1.there b (by rw [upd_ne z]; exact e)
  · have ne : b ≠ p := fun z => by rw [z, hI] at e; cases e
    rw [upd_ne ne]; exact ok1.ex b u e
  · by_cases z : b = p
    · rw [z, put_same] at e
      cases e
      rw [z]
      exact relO_md upd_same (relP_merge r1 .nil)
    · rw [put_ne z] at e
      exact RelO.mono (Ex.refl I1) (upd_ne z) (ok1.j b o e)
  · by_cases z : b = p
    · rw [z]; exact hI
    · have m' : put g1 p (.md (mergeA es)) b ≠ none := m
      rw [put_ne z] at m'
      exact ok1.out b m'
end
/-- a promise told in the context with a store -/
abbrev FS := Store → List EV → (EV → Store → Prop) → Prop
def FL (n : Nat) (F : FS) : FT := fun c g es P => es.length = n ∧ ∃ (K : PySem.W.Frag) (g0 : Store) (P0 : EV → Store → Prop), (⟨c, g, P⟩ : (c : Ctx) × c.S × (EV → c.S → Prop)) = ⟨sC K, g0, P0⟩ ∧ F g0 es P0
theorem use_FL {n : Nat} {F : FS} {K : PySem.W.Frag} {g : Store} {es : List EV} {P : EV → Store → Prop} (l : es.length = n) (h : F g es P) : FL n F (sC K) g es P := ⟨l, K, g, P, rfl, h⟩
end Dl

set_option Elab.async false
set_option linter.all false
set_option autoImplicit false
set_option maxRecDepth 100000
set_option maxHeartbeats 4000000
namespace Dl
open PySem PySem.Spec PyProof.Rows L2
theorem spFL {K : PySem.W.Frag} {n : Nat} {F : FS} {vs : List V} {H : Hp} {Q : VK} {E : XK} (h : SpF K (FL n F) vs H Q E) : ∃ (I : Hp) (g : Store) (es : List EV) (P : EV → Store → Prop), Ok (sC K) I H g ∧ Paired (RelE (sC K).K I) vs es ∧ F g es P ∧ End (sC K) I H g P Q := by
  obtain ⟨c, I, g, es, P, e, ok, r, ⟨-, K0, g0, P0, e0, hF⟩, k⟩ := h
  cases e0
  have e' : K0 = K := e
  subst e'
  exact ⟨I, _, es, _, ok, r, hF, k⟩
theorem ps_cut {c : Ctx} {ρ : Rho} {g : c.S} {t u : TS} {Pn : Rho → c.S → Prop} {Pr : EV → c.S → Prop} (Mid : Rho → c.S → Prop) (h1 : PSt c t ρ g Mid Pr) (h2 : ∀ ρ1 g1, Mid ρ1 g1 → PSt c u ρ1 g1 Pn Pr) : PSt c (tSeq t u) ρ g Pn Pr := Dl.ps_seq (h1.imp h2)
theorem cut_drop {α : Type} {xs : List α} (n : Nat) : cutD xs (some (n : Int)) none = xs.drop n := by
  unfold cutD
  rw [HT.sIx_none, HT.sIx_nat]
  by_cases h : n ≤ xs.length
  · rw [Nat.min_eq_left h, List.take_of_length_le (by simp)]
  · rw [Nat.min_eq_right (by omega)]
    simp
    omega
theorem o_neg {c : Ctx} {g : c.S} {P : EV → c.S → Prop} {f : Int → Int} {i : Int} (p : P (.d (.int (f i))) g) : O1 c (rU fun i => .int (f i)) (.d (.int i)) g P := fun I H xv ok rx Q k => by
  cases rx
  exact ⟨i, rfl, k.here (e := .d (.int (f i))) ok (Dp.int _) p⟩
theorem at_last {α : Type} {xs : List α} (h : 0 < xs.length) : atI xs (-1) = some (xs[xs.length - 1]'(by omega)) := by
  unfold atI ixN
  rw [if_neg (by omega), if_pos (by omega)]
  have e : ((-1 : Int) + (xs.length : Int)).toNat = xs.length - 1 := by omega
  show xs[((-1 : Int) + (xs.length : Int)).toNat]? = _
  rw [e]
  exact List.getElem?_eq_getElem _
theorem atI_some {α : Type} {xs : List α} {i : Int} (h0 : 0 ≤ i) (h1 : i < xs.length) : ∃ x, atI xs i = some x ∧ x ∈ xs := by
  obtain ⟨n, rfl⟩ := Int.eq_ofNat_of_zero_le h0
  have hn : n < xs.length := by omega
  exact ⟨xs[n], atI_nat (List.getElem?_eq_getElem hn), List.getElem_mem hn⟩
/-! ### words drawn sign by sign -/
section
variable {c : Ctx} {ρ : Rho} {g : c.S} {P : EV → c.S → Prop} {te : TE} {vs js : List Nat} {wi : TI} {gt : TG}
/-- a comprehension whose items are known by a property alone -/
theorem pv_lcG (h : PIt c wi gt js ρ g fun n f g1 => (∀ j ∈ js, j ∈ vs) ∧ n < sizeLine ∧ ∃ (G : Nat → PyData → Prop) (J : c.S → Prop), J g1 ∧ (∀ i g2, i < n → J g2 → PV c te (f i (wipeR ρ vs)) g2 fun e g3 => ∃ d, e = .d d ∧ G i d ∧ J g3) ∧
    (∀ ds g2, ds.length = n → (∀ (i : Nat) (d : PyData), ds[i]? = some d → G i d) → J g2 → P (.d (.list ds)) g2)) : PV c (tLc wi gt tYes te vs) ρ g P := by
  refine pv_lc fun σ I H ok en R k => h σ I H ok en R fun J n f I1 H1 g1 s1 ok1 W ⟨hj, hn, G, Jv, h0, turn, hp⟩ => k J n f I1 H1 g1 s1 ok1 W ⟨hj, hn, fun i acc g2 => acc.length = i ∧ (∀ (i : Nat) (d : PyData), acc[i]? = some d → G i d) ∧ Jv g2, ⟨rfl, fun i d e => by simp at e, h0⟩, ?_, ?_⟩
  · rintro i acc g2 hi _ ⟨hl, hG, hJ⟩
    refine fun σ I H ok en Q kq => kq true I H g2 Step.refl ok ?_
    dsimp only
    rw [if_pos rfl]
    refine (turn i g2 hi hJ).imp fun e g3 ⟨d, e1, hd, hJ3⟩ => ⟨d, e1, by simp [hl], fun k x q => ?_, hJ3⟩
    by_cases hk : k < acc.length
    · rw [List.getElem?_append_left hk] at q
      exact hG k x q
    · rw [List.getElem?_append_right (by omega)] at q
      have hk2 : k = acc.length := by
        have := (List.getElem?_eq_some_iff.mp q).1
        simp at this; omega
      subst hk2
      simp at q
      subst q
      rw [hl]; exact hd
  · rintro acc g2 _ ⟨hl, hG, hJ⟩
    exact hp acc g2 hl hG hJ
def sgn (x : Nat) : PyData := .str ⟨#[x]⟩
theorem sgns_of {good : Nat → Prop} : ∀ {ds : List PyData}, (∀ d ∈ ds, ∃ x, d = sgn x ∧ good x) → ∃ ns : List Nat, ds = ns.map sgn ∧ ∀ x ∈ ns, good x
  | [], _ => ⟨[], rfl, fun x h => by cases h⟩
  | d :: ds, h => by
    obtain ⟨x, rfl, hx⟩ := h d (by simp)
    obtain ⟨ns, rfl, hn⟩ := sgns_of (ds := ds) fun y m => h y (by simp [m])
    refine ⟨x :: ns, rfl, fun y m => ?_⟩
    rcases List.mem_cons.mp m with rfl | m
    · exact hx
    · exact hn y m
theorem join_sgns (ns : List Nat) : Txt.join (Str.ofString "") (ns.map fun x => (⟨#[x]⟩ : Str)) = ⟨ns.toArray⟩ := by
  show Builtin.Str.glued (Str.ofString "") _ = _
  rw [StrLaws.glued_eq_join]
  have e : (Str.ofString "") = (⟨#[]⟩ : Str) := by decide
  rw [e]
  exact PyProof.Rows.join_nil_signs ⟨ns.toArray⟩
theorem sum_ones (ns : List Nat) : ((ns.map fun x => (⟨#[x]⟩ : Str)).map (·.length)).sum = ns.length := by
  induction ns with
  | nil => rfl
  | cons x ns ih =>
    rw [List.map_cons, List.map_cons, List.sum_cons, ih, List.length_cons]
    show 1 + _ = _
    omega
theorem pv_word (h : PIt c wi gt js ρ g fun n f g1 => (∀ j ∈ js, j ∈ vs) ∧ n ≤ 1000 ∧ ∃ (good : Nat → Prop) (J : c.S → Prop), J g1 ∧ (∀ i g2, i < n → J g2 → PV c te (f i (wipeR ρ vs)) g2 fun e g3 => ∃ x, e = .d (.str ⟨#[x]⟩) ∧ good x ∧ J g3) ∧
    (∀ (ns : List Nat) (g2 : c.S), ns.length = n → (∀ x ∈ ns, good x) → J g2 → P (.d (.str ⟨ns.toArray⟩)) g2)) : PV c (tM1 (zJoin c.K) (tC (.str (Str.ofString ""))) (tLc wi gt tYes te vs)) ρ g P := by
  refine pv_join (pv_lcG fun σ I H ok en R k => h σ I H ok en R fun J n f I1 H1 g1 s1 ok1 W ⟨hj, hn, good, Jv, h0, turn, hp⟩ => k J n f I1 H1 g1 s1 ok1 W ⟨hj, lt_line (by omega), fun _ d => ∃ x, d = sgn x ∧ good x, Jv, h0, fun i g2 hi hJ => (turn i g2 hi hJ).imp fun e g3 ⟨x, e1, hx, hJ3⟩ => ⟨_, e1, ⟨x, rfl, hx⟩, hJ3⟩, fun ds g2 hl hG hJ => ?_⟩)
  obtain ⟨ns, rfl, hn2⟩ := sgns_of (good := good) (ds := ds) fun d hd => by
    obtain ⟨i, hi, rfl⟩ := List.getElem_of_mem hd
    exact hG i _ (List.getElem?_eq_getElem hi)
  rw [List.length_map] at hl
  refine ⟨ns.map fun x => ⟨#[x]⟩, by rw [List.map_map]; rfl, ?_, ?_⟩
  · rw [sum_ones]
    have e : (Str.ofString "").length = 0 := by decide
    rw [e]; omega
  · rw [join_sgns]
    exact hp ns g2 hl hn2 hJ
end
theorem strOk_of {ns : List Nat} (h : ∀ x ∈ ns, x < 1114112) : PySem.PyData.strOk ⟨ns.toArray⟩ = true := by
  show ns.toArray.all (fun a => decide (a < 0x110000)) = true
  rw [← Array.all_toList, List.all_eq_true]
  exact fun x m => decide_eq_true (h x (by simpa using m))
theorem text_ok {ns : List Nat} (hl : ns.length ≤ 96) (h : ∀ x ∈ ns, isSign x = true) : isText (.str ⟨ns.toArray⟩) = true ∧ fit (.str ⟨ns.toArray⟩) = true := by
  have e : (⟨ns.toArray⟩ : Str).length = ns.length := by show ns.toArray.size = _; simp
  refine ⟨?_, ?_⟩
  · simp only [isText, e, Bool.and_eq_true, decide_eq_true_eq, List.all_eq_true]
    exact ⟨by omega, fun x m => h x (by simpa using m)⟩
  · rw [fit_str]
    refine ⟨by rw [e]; omega, ?_⟩
    refine strOk_of fun x m => ?_
    have := h x m
    unfold isSign at this
    simp only [Bool.and_eq_true, decide_eq_true_eq] at this
    omega
theorem lows_small : ∀ x ∈ lows.cps.toList, x < 1000 := by decide +kernel
theorem name_ok {ns : List Nat} (h0 : 1 ≤ ns.length) (hl : ns.length ≤ 8) (h : ∀ x ∈ ns, x ∈ lows.cps.toList) : isName (.str ⟨ns.toArray⟩) = true ∧ fit (.str ⟨ns.toArray⟩) = true := by
  have e : (⟨ns.toArray⟩ : Str).length = ns.length := by show ns.toArray.size = _; simp
  refine ⟨?_, ?_⟩
  · simp only [isName, e, Bool.and_eq_true, decide_eq_true_eq, List.all_eq_true]
    exact ⟨by omega, by omega, fun x m => h x (by simpa using m)⟩
  · rw [fit_str]
    refine ⟨by rw [e]; omega, ?_⟩
    refine strOk_of fun x m => ?_
    have := lows_small _ (h x m)
    omega
def absD : PyData → PyData | .int i => .int (if i < 0 then -i else i) | d => d
/-! ### the pot -/
def Kept (g g' : Store) (p : Addr) : Prop := ∀ b, b ≠ p → g b ≠ none → g' b = g b
theorem Kept.refl {g : Store} {p : Addr} : Kept g g p := fun _ _ _ => rfl
theorem Kept.trans {g g1 g2 : Store} {p : Addr} (a : Kept g g1 p) (b : Kept g1 g2 p) : Kept g g2 p := fun x h n => (b x h (by rw [a x h n]; exact n)).trans (a x h n)
theorem Kept.put {g : Store} {p : Addr} {o : MO} : Kept g (put g p o) p := fun _ h _ => put_ne h
theorem Kept.new {g : Store} {p q : Addr} {o : MO} (h : g q = none) : Kept g (Dl.put g q o) p := fun b _ n => put_ne fun e => n (by rw [e]; exact h)
def potO (ns : List Int) (i a m n : Int) : MO := .ml [.d (.list (ns.map .int)), .d (.int i), .d (.int a), .d (.int m), .d (.int n)]
structure PotOk (ns : List Int) (i a m n : Int) : Prop where
  ns0 : ∀ x ∈ ns, 0 ≤ x
  i0 : 0 ≤ i
  a0 : 0 ≤ a
  len : ns.length ≤ 63
def PotIs (g : Store) (p : Addr) : Prop := ∃ ns i a m n, g p = some (.ml [.d (.list (List.map PyData.int ns)), .d (.int i), .d (.int a), .d (.int m), .d (.int n)]) ∧ PotOk ns i a m n
theorem PotIs.there {g : Store} {p : Addr} (h : PotIs g p) : g p ≠ none := by
  obtain ⟨ns, i, a, m, n, e, _⟩ := h
  rw [e]; simp
theorem PotIs.kept {g g' : Store} {p q : Addr} (h : PotIs g p) (k : Kept g g' q) (ne : p ≠ q) : PotIs g' p := by
  have t := h.there
  unfold PotIs at h ⊢
  rw [k p ne t]; exact h
theorem PotIs.new {g : Store} {p q : Addr} {o : MO} (h : PotIs g p) (hq : g q = none) : PotIs (put g q o) p := by
  have ne : p ≠ q := fun e => h.there (by rw [e]; exact hq)
  unfold PotIs at h ⊢
  rw [put_ne ne]; exact h
abbrev F__law_pot : FT := FL 1 fun g es P => ∃ ns : List Int, es = [.d (.list (ns.map .int))] ∧ ns.length ≤ 63 ∧ ∀ q g', g q = none → PotIs g' q → Kept g g' q → P (.r (.ref q)) g'
abbrev F__law_draw : FT := FL 2 fun g es P => ∃ p n, es = [.r (.ref p), .d (.int n)] ∧ 1 ≤ n ∧ n < 1073741824 ∧ PotIs g p ∧ ∀ g' r, PotIs g' p → Kept g g' p → 0 ≤ r → r < n → P (.d (.int r)) g'
abbrev F__law_any : FT := FL 2 fun g es P => ∃ p ds, es = [.r (.ref p), .d (.list ds)] ∧ ds ≠ [] ∧ ds.length ≤ 1000000 ∧ PotIs g p ∧ ∀ g' d, PotIs g' p → Kept g g' p → d ∈ ds → P (.d d) g'
abbrev F__law_signs : FT := FL 2 fun g es P => ∃ p n, es = [.r (.ref p), .d (.int n)] ∧ 0 ≤ n ∧ n ≤ 96 ∧ PotIs g p ∧ ∀ g' z, PotIs g' p → Kept g g' p → isText (.str z) = true → fit (.str z) = true → P (.d (.str z)) g'
abbrev F__law_text : FT := FL 1 fun g es P => ∃ p, es = [.r (.ref p)] ∧ PotIs g p ∧ ∀ g' z, PotIs g' p → Kept g g' p → isText (.str z) = true → fit (.str z) = true → P (.d (.str z)) g'
abbrev F__law_name : FT := FL 1 fun g es P => ∃ p, es = [.r (.ref p)] ∧ PotIs g p ∧ ∀ g' z, PotIs g' p → Kept g g' p → isName (.str z) = true → fit (.str z) = true → P (.d (.str z)) g'
abbrev F__law_edit : FT := FL 1 fun g es P => ∃ p, es = [.r (.ref p)] ∧ PotIs g p ∧ ∀ g' d, PotIs g' p → Kept g g' p → isEdit d = true → fit d = true → d.depth ≤ 2 → P (.d d) g'
abbrev F__law_is (k : Nat) : FT := FN 2 fun c g es P => ∃ d, es = [.d d, .d d] ∧ fit d = true ∧ d.depth < k ∧ P (.d (.bool true)) g
/-! ### the account -/
def accO (wr : Addr) (b n k : Int) : List (Key × EV) := [(.inr "boot", .d (.int b)), (.inr "first", .d (.int n)), (.inr "written", .r (.ref wr)), (.inr "gone", .d (.int k))]
structure AccAt (g : Store) (a wr : Addr) (m : Nat) (b n : Int) (p : List PyData) (ws : List PyData) (k : Nat) : Prop where
  ga : g a = some (.md (accO wr b n (k : Nat)))
  gw : g wr = some (.ml (ws.map .d))
  dr : ws.drop k = p
  le : k ≤ ws.length
  sz : ws.length ≤ m
  ne : a ≠ wr
theorem AccAt.kept {g g' : Store} {a wr q : Addr} {m : Nat} {b n : Int} {p ws : List PyData} {k : Nat} (h : AccAt g a wr m b n p ws k) (t : Kept g g' q) (n1 : a ≠ q) (n2 : wr ≠ q) : AccAt g' a wr m b n p ws k :=
  ⟨by rw [t a n1 (by rw [h.ga]; simp)]; exact h.ga, by rw [t wr n2 (by rw [h.gw]; simp)]; exact h.gw, h.dr, h.le, h.sz, h.ne⟩
theorem AccAt.toBoot {g : Store} {a wr : Addr} {m : Nat} {b n b' : Int} {p ws : List PyData} {k : Nat} (h : AccAt g a wr m b n p ws k) : AccAt (put g a (.md (putA (accO wr b n (k : Nat)) (.inr "boot") (.d (.int b'))))) a wr (m + 1) b' n p ws k :=
  ⟨by rw [put_same]; rfl, by rw [put_ne h.ne.symm]; exact h.gw, h.dr, h.le, Nat.le_succ_of_le h.sz, h.ne⟩
theorem AccAt.toFirst {g : Store} {a wr : Addr} {m : Nat} {b n n' : Int} {p ws : List PyData} {k : Nat} (h : AccAt g a wr m b n p ws k) : AccAt (put g a (.md (putA (accO wr b n (k : Nat)) (.inr "first") (.d (.int n'))))) a wr m b n' p ws k :=
  ⟨by rw [put_same]; rfl, by rw [put_ne h.ne.symm]; exact h.gw, h.dr, h.le, h.sz, h.ne⟩
theorem AccAt.toGone {g : Store} {a wr : Addr} {m : Nat} {b n : Int} {x : PyData} {p ws : List PyData} {k : Nat} (h : AccAt g a wr m b n (x :: p) ws k) : AccAt (put g a (.md (putA (accO wr b n (k : Nat)) (.inr "gone") (.d (.int ((k : Int) + 1)))))) a wr (m + 1) b n p ws (k + 1) := by
  refine ⟨by rw [put_same]; rfl, by rw [put_ne h.ne.symm]; exact h.gw, ?_, ?_, Nat.le_succ_of_le h.sz, h.ne⟩
  · rw [← List.drop_drop, h.dr]; rfl
  · have e := congrArg List.length h.dr
    rw [List.length_drop, List.length_cons] at e
    omega
theorem AccAt.toApp {g : Store} {a wr : Addr} {m : Nat} {b n : Int} {x : PyData} {p ws : List PyData} {k : Nat} (h : AccAt g a wr m b n p ws k) : AccAt (put g wr (.ml (ws.map .d ++ [.d x]))) a wr (m + 1) b n (p ++ [x]) (ws ++ [x]) k := by
  refine ⟨by rw [put_ne h.ne]; exact h.ga, by rw [put_same, List.map_append]; rfl, ?_, ?_, ?_, h.ne⟩
  · rw [List.drop_append_of_le_length h.le, h.dr]
  · have := h.le; simp; omega
  · have := h.sz; simp; omega
abbrev sheetD (b n : Int) (p : List PyData) : PyData := .tuple [.int b, .int n, .tuple p]
abbrev F__law_account : FT := FL 1 fun g es P => ∃ b n p, es = [.d (sheetD b n p)] ∧ ∀ a wr g', g a = none → g wr = none → AccAt g' a wr p.length b n p p 0 → (∀ x, x ≠ a → x ≠ wr → g' x = g x) → P (.r (.ref a)) g'
abbrev F__law_sheet_of : FT := FL 1 fun g es P => ∃ a wr m b n p ws k, es = [.r (.ref a)] ∧ AccAt g a wr m b n p ws k ∧ P (.d (sheetD b n p)) g
/-! ### edits and notes, made -/
theorem edit_put {t : PyData} (h : isText t = true) : isEdit (.tuple [.str "put", t]) = true := (byWord_some (tests := editTests) (w := "put") (ps := [isText]) rfl).trans (by simp [allP, h])
theorem edit_splice {a b t : PyData} (h1 : isCount a = true) (h2 : isCount b = true) (h : isText t = true) : isEdit (.tuple [.str "splice", a, b, t]) = true := (byWord_some (tests := editTests) (w := "splice") (ps := [isCount, isCount, isText]) rfl).trans (by simp [allP, h, h1, h2])
theorem edit_remove : isEdit (.tuple [.str "remove"]) = true := (byWord_some (tests := editTests) (w := "remove") (ps := []) rfl).trans (by simp [allP])
theorem edit_take {t : PyData} (h : isName t = true) : isEdit (.tuple [.str "take", t]) = true := (byWord_some (tests := editTests) (w := "take") (ps := [isName]) rfl).trans (by simp [allP, h])
theorem edit_adopt {a b : PyData} (h1 : isClient a = true) (h2 : isNumber b = true) : isEdit (.tuple [.str "adopt", a, b]) = true := (byWord_some (tests := editTests) (w := "adopt") (ps := [isClient, isNumber]) rfl).trans (by simp [allP, h1, h2])
theorem edit_drop {a b : PyData} (h1 : isClient a = true) (h2 : isNumber b = true) : isEdit (.tuple [.str "drop", a, b]) = true := (byWord_some (tests := editTests) (w := "drop") (ps := [isClient, isNumber]) rfl).trans (by simp [allP, h1, h2])
theorem note_boot : isNote (.tuple [.str "boot"]) = true := (byWord_some (tests := noteTests) (w := "boot") (ps := []) rfl).trans (by simp [allP])
theorem note_write {a b t : PyData} (h1 : isName a = true) (h2 : isBase b = true) (h : isEdit t = true) : isNote (.tuple [.str "write", a, b, t]) = true := (byWord_some (tests := noteTests) (w := "write") (ps := [isName, isBase, isEdit]) rfl).trans (by simp [allP, h, h1, h2])
theorem note_settled {a : PyData} (h1 : isNumber a = true) : isNote (.tuple [.str "settled", a]) = true := (byWord_some (tests := noteTests) (w := "settled") (ps := [isNumber]) rfl).trans (by simp [allP, h1])
theorem note_stand {a : PyData} (h1 : isSheet a = true) : isNote (.tuple [.str "stand", a]) = true := (byWord_some (tests := noteTests) (w := "stand") (ps := [isSheet]) rfl).trans (by simp [allP, h1])
theorem fit_word {z : Str} (h : fit (.str z) = true) {r : List PyData} (hl : r.length ≤ 10) (hr : ∀ x ∈ r, fit x = true) : fit (.tuple (.str z :: r)) = true := by
  rw [fit_tup]
  refine ⟨by simp; omega, fun x m => ?_⟩
  rcases List.mem_cons.mp m with rfl | m
  · exact h
  · exact hr x m
theorem noted_boot {b n : Int} {p : List PyData} : noted (sheetD b n p) (.tuple [.str "boot"]) = sheetD (b + 1) n p := by
  show rawNoted b n p "boot" [] = _
  unfold rawNoted
  rw [if_pos rfl]
theorem noted_write {b n : Int} {p r : List PyData} : noted (sheetD b n p) (.tuple (.str "write" :: r)) = sheetD b (n + 1) (p ++ [.tuple (.int (n + 1) :: r)]) := by
  show rawNoted b n p "write" r = _
  unfold rawNoted
  rw [if_neg (by decide +kernel), if_pos rfl]
theorem noted_settled {b n k : Int} {p : List PyData} : noted (sheetD b n p) (.tuple [.str "settled", .int k]) = sheetD b n (if settles p [.int k] then p.drop 1 else p) := by
  show rawNoted b n p "settled" _ = _
  unfold rawNoted
  rw [if_neg (by decide +kernel), if_neg (by decide +kernel), if_pos rfl]
theorem noted_stand {b n : Int} {p : List PyData} {s : PyData} : noted (sheetD b n p) (.tuple [.str "stand", s]) = s := by
  show rawNoted b n p "stand" _ = _
  unfold rawNoted
  rw [if_neg (by decide +kernel), if_neg (by decide +kernel), if_neg (by decide +kernel)]
  rfl
/-- what is pending: numbered without a gap up to n -/
structure RowIs (i : Int) (d : PyData) : Prop where
  ex : ∃ nm bs ed, d = .tuple [.int i, nm, bs, ed] ∧ isName nm = true ∧ isBase bs = true ∧ isEdit ed = true ∧ fit nm = true ∧ fit bs = true ∧ fit ed = true ∧ nm.depth ≤ 2 ∧ bs.depth ≤ 2 ∧ ed.depth ≤ 2
structure Pend (n : Int) (p : List PyData) : Prop where
  pos : 0 ≤ n - p.length
  row : ∀ (k : Nat) (d : PyData), p[k]? = some d → RowIs (n - p.length + 1 + k) d
theorem Pend.nil {n : Int} (h : 0 ≤ n) : Pend n [] := ⟨by simpa using h, fun k d e => by simp at e⟩
theorem Pend.tail {n : Int} {x : PyData} {p : List PyData} (h : Pend n (x :: p)) : Pend n p := by
  refine ⟨by have := h.pos; rw [List.length_cons] at this; omega, fun k d e => ?_⟩
  have := h.row (k + 1) d (by simpa using e)
  rw [List.length_cons] at this
  have e2 : n - ((p.length + 1 : Nat) : Int) + 1 + ((k + 1 : Nat) : Int) = n - p.length + 1 + k := by omega
  rw [e2] at this; exact this
theorem Pend.snoc {n : Int} {d : PyData} {p : List PyData} (h : Pend n p) (r : RowIs (n + 1) d) : Pend (n + 1) (p ++ [d]) := by
  refine ⟨by have := h.pos; simp; omega, fun k x e => ?_⟩
  have hl : ((p ++ [d]).length : Int) = p.length + 1 := by simp
  rw [hl]
  by_cases hk : k < p.length
  · rw [List.getElem?_append_left hk] at e
    have := h.row k x e
    have e2 : n + 1 - ((p.length : Int) + 1) + 1 + k = n - p.length + 1 + k := by omega
    rw [e2]; exact this
  · rw [List.getElem?_append_right (by omega)] at e
    have hk2 : k = p.length := by
      have := (List.getElem?_eq_some_iff.mp e).1
      simp at this; omega
    subst hk2
    simp at e
    subst e
    have e2 : n + 1 - ((p.length : Int) + 1) + 1 + p.length = n + 1 := by omega
    rw [e2]; exact r
theorem depth_mem {x : PyData} : ∀ {ds : List PyData}, x ∈ ds → x.depth ≤ PyData.depthAll ds
  | [], h => by cases h
  | d :: ds, h => by
    simp only [PyData.depthAll]
    rcases List.mem_cons.mp h with rfl | h
    · exact Nat.le_max_left _ _
    · exact Nat.le_trans (depth_mem h) (Nat.le_max_right _ _)
theorem depthAll_le {k : Nat} : ∀ {ds : List PyData}, (∀ d ∈ ds, d.depth ≤ k) → PyData.depthAll ds ≤ k
  | [], _ => by simp [PyData.depthAll]
  | d :: ds, h => by
    simp only [PyData.depthAll]
    have h1 := h d (by simp)
    have h2 := depthAll_le (k := k) (ds := ds) fun x m => h x (by simp [m])
    omega
theorem dataLt_int1 {i j : Int} (h : i < j) : PySem.W.dataLt (.tuple [.int i]) (.tuple [.int j]) = true := by
  have e : PyData.eqv (.int i) (.int j) = false := by simp [PyData.eqv]; omega
  have al : PySem.W.alike (.int i) (.int j) = true := by simp [PySem.W.alike]
  have q := PySem.W.dataLt_all_no (xs := []) (ys := []) al e
  rw [PySem.W.dataLt_int, decide_eq_true h] at q
  exact q
theorem eqvAll_ints : ∀ (ns : List Int), PyData.eqvAll (ns.map .int) (ns.map .int) = true
  | [] => by simp [PyData.eqvAll]
  | n :: ns => by simp [PyData.eqvAll, PyData.eqv, eqvAll_ints ns]
theorem Pend.heads {n : Int} {p : List PyData} (h : Pend n p) : p.map head0 = intsD (n - p.length + 1) (n + 1) := by
  unfold intsD
  apply List.ext_getElem?
  intro k
  rw [List.getElem?_map, List.getElem?_map]
  cases e : p[k]? with
  | none =>
    have hk := List.getElem?_eq_none_iff.mp e
    have : (List.range (n + 1 - (n - p.length + 1)).toNat)[k]? = none := by rw [List.getElem?_eq_none_iff, List.length_range]; omega
    rw [this]; rfl
  | some d =>
    have hk := (List.getElem?_eq_some_iff.mp e).1
    have : (List.range (n + 1 - (n - p.length + 1)).toNat)[k]? = some k := by rw [List.getElem?_range]; omega
    rw [this]
    obtain ⟨nm, bs, ed, rfl, _⟩ := (h.row k d e).ex
    rfl
theorem Pend.sheet {b n : Int} {p : List PyData} (h : Pend n p) (hb : 0 ≤ b) : isSheet (sheetD b n p) = true := by
  have hn : 0 ≤ n := by have := h.pos; omega
  have r1 : p.all (isRow sheetTests) = true := by
    rw [List.all_eq_true]
    intro d hd
    obtain ⟨k, hk, rfl⟩ := List.getElem_of_mem hd
    obtain ⟨nm, bs, ed, e, h1, h2, h3, _⟩ := (h.row k _ (List.getElem?_eq_getElem hk)).ex
    rw [e]
    simp [isRow, allP, h1, h2, h3, isNumber]
    have := h.pos; omega
  have r2 : asc (p.map (cutT 1)) = true := by
    unfold asc
    rw [List.all_eq_true]
    intro k hk
    have hk' := List.mem_range.mp hk
    rw [List.length_map] at hk'
    have e1 := List.getElem?_eq_getElem (l := p) (i := k) (by omega)
    have e2 := List.getElem?_eq_getElem (l := p) (i := k + 1) (by omega)
    obtain ⟨_, _, _, q1, _⟩ := (h.row k _ e1).ex
    obtain ⟨_, _, _, q2, _⟩ := (h.row (k + 1) _ e2).ex
    rw [q1] at e1
    rw [q2] at e2
    unfold ltAt
    rw [List.getElem?_map, List.getElem?_map, e1, e2]
    exact dataLt_int1 (by omega)
  have r3 : numsOk (.int n) (.tuple p) = true := by
    show (decide (1 ≤ n - (p.length : Int) + 1) && PyData.eqv (.list (p.map head0)) (.list (intsD (n - p.length + 1) (n + 1))) || decide ((p.length : Int) = 0)) = true
    rw [h.heads]
    have e : intsD (n - p.length + 1) (n + 1) = ((List.range (n + 1 - (n - p.length + 1)).toNat).map fun i => (n - p.length + 1 + (i : Nat) : Int)).map .int := by unfold intsD; rw [List.map_map]; rfl
    rw [e]
    have e2 := eqvAll_ints ((List.range (n + 1 - (n - p.length + 1)).toNat).map fun i => (n - p.length + 1 + (i : Nat) : Int))
    have e3 : decide ((1 : Int) ≤ n - p.length + 1) = true := decide_eq_true (by have := h.pos; omega)
    simp only [PyData.eqv, e2, e3, Bool.true_and, Bool.true_or]
  simp only [isSheet, isCount, areRows, decide_eq_true hb, decide_eq_true hn, r1, r2, r3, Bool.true_and]
theorem Pend.fit {b n : Int} {p : List PyData} (h : Pend n p) (hb : 0 ≤ b) (hb2 : b ≤ 2 ^ 60) (hn2 : n ≤ 2 ^ 60) (hp : p.length ≤ 1000000) : Dl.fit (sheetD b n p) = true := by
  have hn : 0 ≤ n := by have := h.pos; omega
  have hrow : ∀ d ∈ p, Dl.fit d = true := by
    intro d hd
    obtain ⟨k, hk, rfl⟩ := List.getElem_of_mem hd
    obtain ⟨nm, bs, ed, e, _, _, _, h1, h2, h3, _⟩ := (h.row k _ (List.getElem?_eq_getElem hk)).ex
    rw [e, fit_tup]
    refine ⟨by simp, ?_⟩
    have := h.pos
    have hi : Dl.fit (.int (n - p.length + 1 + k)) = true := fit_int.mpr ⟨by omega, by omega⟩
    intro x hx
    simp only [List.mem_cons, List.not_mem_nil, or_false] at hx
    rcases hx with rfl | rfl | rfl | rfl <;> assumption
  rw [fit_tup]
  refine ⟨by simp, fun x hx => ?_⟩
  simp only [List.mem_cons, List.not_mem_nil, or_false] at hx
  rcases hx with rfl | rfl | rfl
  · exact fit_int.mpr ⟨by omega, by omega⟩
  · exact fit_int.mpr ⟨by omega, by omega⟩
  · exact fit_tup.mpr ⟨hp, hrow⟩
theorem Pend.depth {b n : Int} {p : List PyData} (h : Pend n p) : (sheetD b n p).depth ≤ 5 := by
  have hrow : ∀ d ∈ p, d.depth ≤ 3 := by
    intro d hd
    obtain ⟨k, hk, rfl⟩ := List.getElem_of_mem hd
    obtain ⟨nm, bs, ed, e, _, _, _, _, _, _, h1, h2, h3⟩ := (h.row k _ (List.getElem?_eq_getElem hk)).ex
    rw [e]
    simp only [PyData.depth, PyData.depthAll]
    omega
  have := depthAll_le hrow
  simp only [PyData.depth, PyData.depthAll]
  omega
theorem Pend.not_settles {n k : Int} {p : List PyData} (h : Pend n p) (hk : ∀ x xs, p = x :: xs → k ≠ n - p.length + 1) : settles p [.int k] = false := by
  cases p with
  | nil => rfl
  | cons x xs =>
    obtain ⟨nm, bs, ed, e, _⟩ := (h.row 0 x rfl).ex
    have hk' := hk _ _ rfl
    generalize ((x :: xs).length : Int) = L at e hk'
    subst e
    exact decide_eq_false fun e => hk' (by rw [← e]; simp)
theorem Pend.settles {n : Int} {x : PyData} {p : List PyData} (h : Pend n (x :: p)) : Dl.settles (x :: p) [.int (n - (x :: p).length + 1)] = true := by
  obtain ⟨nm, bs, ed, e, _⟩ := (h.row 0 x rfl).ex
  generalize ((x :: p).length : Int) = L at e ⊢
  subst e
  exact decide_eq_true (by simp)
theorem Pend.fitL {n : Int} {p : List PyData} (h : Pend n p) (hn2 : n ≤ 2 ^ 60) (hp : p.length ≤ 1000000) : Dl.fit (.list p) = true := by
  have := (fit_tup.mp (h.fit (b := 0) (Int.le_refl 0) (by decide) hn2 hp)).2 (.tuple p) (by simp)
  rw [fit_tup] at this
  rw [fit_lst]; exact this
theorem Pend.depthL {n : Int} {p : List PyData} (h : Pend n p) : (PyData.list p).depth ≤ 64 := by
  have := h.depth (b := 0)
  simp only [PyData.depth, PyData.depthAll] at this ⊢
  omega
theorem eqv_nil {p : List PyData} : PyData.eqv (.list p) (.list []) = p.isEmpty := by
  cases p <;> simp [PyData.eqv, PyData.eqvAll]
abbrev F__law_did : FT := FL 2 fun g es P => ∃ q a wr m b n p ws k, es = [.r (.ref q), .r (.ref a)] ∧ PotIs g q ∧ a ≠ q ∧ wr ≠ q ∧ AccAt g a wr m b n p ws k ∧ m ≤ 900000 ∧ Pend n p ∧ 0 ≤ b ∧ b ≤ 2 ^ 50 ∧ n ≤ 2 ^ 50 ∧
  ∀ g' d b' n' p' ws' k', PotIs g' q → AccAt g' a wr (m + 1) b' n' p' ws' k' → isNote d = true → fit d = true → noted (sheetD b n p) d = sheetD b' n' p' → Pend n' p' → 0 ≤ b' → b' ≤ b + 1 → n' ≤ n + 1 → P (.d d) g'
def LoopInv (q : Addr) (e0 : EV) (i : Nat) (ρ : Rho) (g : Store) : Prop := ∃ (a wr : Addr) (m : Nat) (b n : Int) (p ws : List PyData) (k : Nat) (e4 e5 e6 : Option EV), ρ = [some e0, some (.r (.ref q)), some (.d (sheetD b n p)), some (.r (.ref a)), e4, e5, e6] ∧
  PotIs g q ∧ a ≠ q ∧ wr ≠ q ∧ AccAt g a wr m b n p ws k ∧ Pend n p ∧ m ≤ i + 1 ∧ 0 ≤ b ∧ b ≤ 100 + i ∧ n ≤ 2000000000 + i
abbrev F_law : FT := FL 1 fun g es P => ∃ ns : List Int, es = [.d (.list (ns.map .int))] ∧ ns.length ≤ 63 ∧ ∀ g', P (.d (.bool true)) g'
end Dl

set_option Elab.async false
set_option linter.all false
set_option autoImplicit false
set_option maxRecDepth 100000
set_option maxHeartbeats 4000000
namespace Pr
open PySem PySem.Spec PyProof.Rows L2 Dl
local macro_rules | `(tactic| walk_at "ds1") => `(tactic| first
  | (with_reducible refine ps_seq ?_)
  | (with_reducible refine ps_ret ?_)
  | (with_reducible refine ps_if ?_)
  | (with_reducible refine ps_set ?_)
  | (with_reducible refine ps_next ?_)
  | (with_reducible refine ps_drop ?_)
  | ((with_reducible refine' pv_var ?k1 ?_); (case k1 => rfl))
  | (with_reducible refine pv_int ?_)
  | (with_reducible refine pv_str ?_)
  | (with_reducible refine pv_bl ?_)
  | (with_reducible refine pv_non ?_)
  | (with_reducible refine pv_and ?_)
  | (with_reducible refine pv_or ?_)
  | (with_reducible refine pv_not ?_)
  | (with_reducible refine pv_if ?_)
  | (with_reducible refine pv_op ?_)
  | (with_reducible refine pv_un ?_)
  | (with_reducible refine pv_chain ?_)
  | (with_reducible refine pv_tup ?_)
  | (with_reducible refine pv_call ?_)
  | (with_reducible refine pv_allT ?_)
  | (with_reducible refine pv_allS ?_)
  | (with_reducible refine pv_allR ?_)
  | (with_reducible refine pv_lcT ?_)
  | (with_reducible refine pv_lcL ?_)
  | (with_reducible refine pv_lcTF ?_)
  | (with_reducible refine pv_listRg2 ?_)
  | (with_reducible refine pv_cb ?_)
  | (with_reducible refine pv_sl ?_)
  | (with_reducible refine pp_none ?_)
  | (with_reducible refine pp_some ?_)
  | (with_reducible refine pas_nil ?_)
  | (with_reducible refine pas_cons ?_)
  | (with_reducible refine pb_test' ?_)
  | (with_reducible refine pb_B ?_)
  | (with_reducible refine pb_and ?_)
  | (with_reducible refine pb_or ?_)
  | (with_reducible refine pb_not ?_)
  | (with_reducible refine oc_isi (isT_int _) ?_)
  | (with_reducible refine oc_isi (isT_bool _) ?_)
  | (with_reducible refine oc_isi (isT_str _) ?_)
  | (with_reducible refine oc_isi (isT_tuple _) ?_)
  | (with_reducible refine oc_isi (isT_list _) ?_)
  | (with_reducible refine oc_lenT ?_)
  | (with_reducible refine oc_lenL ?_)
  | (with_reducible refine oc_lenR ?_)
  | (with_reducible refine o_add ?_)
  | ((with_reducible refine' o_iic ?k1 ?_); (case k1 => first | (show (0 : Int) < _; first | decide | assumption | omega) | exact Or.inr ⟨by decide, by decide⟩ | exact Or.inl ⟨by decide, by decide⟩))
  | (with_reducible refine pv_dget ?_)
  | (with_reducible refine o_neg ?_)
  | (with_reducible refine oc_int ?_)
  | (with_reducible refine oc_abs ?_)
  | (with_reducible refine o_ii ?_)
  | (with_reducible refine o_ib ?_)
  | (with_reducible refine o_le ?_)
  | (with_reducible refine o_lt ?_)
  | (with_reducible refine o_eqI ?_)
  | (with_reducible refine o_neI ?_)
  | (with_reducible refine o_eqS ?_)
  | (with_reducible refine o_eqB ?_)
  | (with_reducible refine o_neB ?_)
  | ((with_reducible refine' pv_const ?k1 ?_); (case k1 => assumption))
  | (with_reducible refine pv_raw ?_)
  | ((with_reducible refine oc_lenS ?k1 ?_); (case k1 => assumption))
  | (with_reducible refine o_leS ?_)
  | (with_reducible refine o_inS ?_)
  | ((with_reducible refine' o_isN ?k1 ?_); (case k1 => rfl))
  | ((with_reducible refine' o_notN ?k1 ?_); (case k1 => rfl))
  | (with_reducible refine o_isntB ?_)
  | ((with_reducible refine' o_ixM ?k1 ?k2 ?_); (case k1 => first | assumption | exact put_same); (case k2 => first | exact at0 | exact at1 | exact atI_nat (j := 2) rfl | exact atI_nat (j := 3) rfl | exact atI_nat (j := 4) rfl))
  | (with_reducible refine ps_setix ?_)
  | (with_reducible refine os_lst ?_)
  | ((with_reducible refine' o_ixT ?k1 ?_); (case k1 => first | exact at0 | exact at1 | rfl))
  | (with_reducible refine os_tup ?_)
  | ((with_reducible refine ite_t ?k1 ?_); (case k1 => rfl))
  | ((with_reducible refine ite_f ?k1 ?_); (case k1 => rfl))
  | ((with_reducible refine use_FJ ?k1 ?_); (case k1 => first | rfl | assumption))
  | (with_reducible refine use_is_between ?_)
  | (with_reducible refine use_is_tuple_of ?_)
  | (refine Or.inl (Exists.intro _ (And.intro rfl (And.intro (le_line (Nat.le_of_ble_eq_true rfl)) ?_))))
  | (refine Or.inr (Exists.intro _ (And.intro rfl (And.intro (le_line (Nat.le_of_ble_eq_true rfl)) ?_))))
  | (with_reducible refine Exists.intro _ (And.intro rfl ?_))
  | ((with_reducible refine And.intro ?k1 ?_); (case k1 => exact le_line (Nat.le_of_ble_eq_true rfl))))
local macro_rules | `(tactic| walk_at "ds") => `(tactic| repeat walk_at "ds1")

variable {P : Program} {w : World} {K : PySem.W.Frag} {mg : Str → Option Value} {base : Heap}
theorem absD_map {ns : List Int} : (ns.map PyData.int).map absD = (ns.map fun i => if i < 0 then -i else i).map PyData.int := by rw [List.map_map, List.map_map]; rfl
theorem ok__law_pot {f : Addr} {fd : FuncData} (F : Fun K "_law_pot" "_law_pot" s__law_pot f fd)   (B : Blt mg)  : FnOk P w K mg base CX0 1 f fd ["_law_script"] (SpF K F__law_pot) := by
  refine F.ok sc__law_pot (fun vs H Q E h => ?_) (fun cdv A outer s H vs Q E hr h => ?_)
  · exact lenF h fun c g es P h => h.1
  obtain ⟨I, g, es, P, ok, r, hF, k⟩ := spFL h
  have nd := sc__law_pot.nd
  have hu := hr.units
  have hu1 := hu_of hr
  refine ⟨_, (pss_cons (ps_setLc (i := 1) (own := [("_law_cell", 2)]) (g := gName 2) (tt := tYes) rfl nd rfl rfl (sw_true rfl rfl rfl (by decide +kernel)) (pi_lstZ (K := (sC K).K) (pe_slice (sl_z (K := (sC K).K)) (pv 0) po_none (po_some pe_int))) (blkOk_by (N := ["_law_script", "_law_cells", "_law_cell"]) (sc := defScope s__law_pot) (by decide +kernel)) (fun _ _ _ _ _ => pg_name (i := 2) nd rfl (Or.inl rfl)) (fun _ _ _ _ _ => pts_nil) (fun _ _ _ _ _ => (pe_callB cr_abs (by rfl) B.abs_ (by decide +kernel) (pa_cons (pe_callTy cr_int (by rfl) B.int_ (by decide +kernel) (pa_cons (pv 2) pa_nil)) pa_nil))))
      (pss_one (L2.ps_ret (pe_lst (pa_cons (pv 1) (pa_cons pe_int (pa_cons pe_int (pa_cons (pe_op (op_zadd (K := (sC K).K)) pe_int (pe_callB (cr_len (K := (sC K).K)) (by rfl) B.len_ PySem.boot_len (pa_cons (pv 1) pa_nil))) (pa_cons pe_int pa_nil))))))))), body_run ok r k ?_⟩
  obtain ⟨ns, rfl, hl, hP⟩ := hF
  refine Dl.ps_seq (Dl.ps_set ?_)
  refine pv_lcL ?_
  walk_at "ds"
  have e : cutD (ns.map PyData.int) none (some 63) = ns.map PyData.int := by
    rw [show (63 : Int) = ((63 : Nat) : Int) from rfl, cut_take, List.take_of_length_le (by rw [List.length_map]; exact hl)]
  rw [e]
  refine ⟨by simp, by rw [List.length_map]; omega, absD, fun x hx => ?_, ?_⟩
  · obtain ⟨i, _, rfl⟩ := List.mem_map.mp hx
    walk_at "ds"
    exact ⟨rfl, rfl⟩
  · rw [absD_map]
    walk_at "ds"
    refine pv_lstM ?_
    walk_at "ds"
    refine fun q hq => hP q _ hq ⟨_, _, _, _, _, put_same, ⟨?_, Int.le_refl 0, Int.le_refl 0, by rw [List.length_map]; exact hl⟩⟩ Kept.put
    intro x hx
    obtain ⟨i, _, rfl⟩ := List.mem_map.mp hx
    split <;> omega
theorem ok__law_draw {f : Addr} {fd : FuncData} (F : Fun K "_law_draw" "_law_draw" s__law_draw f fd)   (B : Blt mg)  : FnOk P w K mg base CX0 1 f fd ["_law_pot_here", "_law_many"] (SpF K F__law_draw) := by
  refine F.ok sc__law_draw (fun vs H Q E h => ?_) (fun cdv A outer s H vs Q E hr h => ?_)
  · exact lenF h fun c g es P h => h.1
  obtain ⟨I, g, es, P, ok, r, hF, k⟩ := spFL h
  have nd := sc__law_draw.nd
  have hu := hr.units
  have hu1 := hu_of hr
  refine ⟨_, (pss_cons (L2.ps_if (PW.pt (pw_and (pt_cmpR (op_zeq (K := (sC K).K) hu) (pe_ix (ix_z (K := (sC K).K) (w := w)) (pv 0) pe_int (fun _ _ => rfl)) pe_int (nomark _)) (pw_and1 (pt_cmpR (op_zlt (K := (sC K).K) hu) (pe_ix (ix_z (K := (sC K).K) (w := w)) (pv 0) pe_int (fun _ _ => rfl)) (pe_callB (cr_len (K := (sC K).K)) (by rfl) B.len_ PySem.boot_len (pa_cons (pe_ix (ix_z (K := (sC K).K) (w := w)) (pv 0) pe_int (fun _ _ => rfl)) pa_nil)) (nomark _))))) (pss_cons (L2.ps_set (i := 2) nd rfl (by first | exact Or.inl rfl | exact Or.inr rfl | exact Or.inr (Or.inl rfl)) (pe_ix (ix_z (K := (sC K).K) (w := w)) (pe_ix (ix_z (K := (sC K).K) (w := w)) (pv 0) pe_int (fun _ _ => rfl)) (pe_ix (ix_z (K := (sC K).K) (w := w)) (pv 0) pe_int (fun _ _ => rfl)) (fun _ _ => rfl)))
      (pss_cons (ps_asg (pe_op (op_zadd (K := (sC K).K)) (pe_ix (ix_z (K := (sC K).K) (w := w)) (pv 0) pe_int (fun _ _ => rfl)) pe_int) (pg_sub (pv 0) pe_int set_list))
      (pss_cons (ps_asg (pe_op op_mod (pe_callTy cr_int (by rfl) B.int_ (by decide +kernel) (pa_cons (pe_op (op_zadd (K := (sC K).K)) (pe_op (op_zadd (K := (sC K).K)) (pe_op op_mul (pe_ix (ix_z (K := (sC K).K) (w := w)) (pv 0) pe_int (fun _ _ => rfl)) pe_int) (pv 2)) pe_int) pa_nil)) pe_int) (pg_sub (pv 0) pe_int set_list))
      (pss_one (L2.ps_if (pt_cmpR op_ge (pv 2) (pe_op op_pow pe_int pe_int) (nomark _)) (pss_one (ps_asg (pv 2) (pg_sub (pv 0) pe_int set_list))) pss_nil))))) pss_nil)
      (pss_cons (L2.ps_if (pt_cmpR op_gt (pe_ix (ix_z (K := (sC K).K) (w := w)) (pv 0) pe_int (fun _ _ => rfl)) pe_int (nomark _)) (pss_cons (L2.ps_set (i := 3) nd rfl (by first | exact Or.inl rfl | exact Or.inr rfl | exact Or.inr (Or.inl rfl)) (pe_op op_mod (pe_callTy cr_int (by rfl) B.int_ (by decide +kernel) (pa_cons (pe_ix (ix_z (K := (sC K).K) (w := w)) (pv 0) pe_int (fun _ _ => rfl)) pa_nil)) (pv 1)))
      (pss_cons (ps_asg (pe_op op_fdiv (pe_ix (ix_z (K := (sC K).K) (w := w)) (pv 0) pe_int (fun _ _ => rfl)) (pv 1)) (pg_sub (pv 0) pe_int set_list))
      (pss_one (L2.ps_ret (pv 3))))) pss_nil)
      (pss_cons (ps_asg (pe_op (op_zadd (K := (sC K).K)) (pe_ix (ix_z (K := (sC K).K) (w := w)) (pv 0) pe_int (fun _ _ => rfl)) pe_int) (pg_sub (pv 0) pe_int set_list))
      (pss_cons (L2.ps_set (i := 4) nd rfl (by first | exact Or.inl rfl | exact Or.inr rfl | exact Or.inr (Or.inl rfl)) (pe_op op_mod (pe_callTy cr_int (by rfl) B.int_ (by decide +kernel) (pa_cons (pe_op op_mul (pe_callTy cr_int (by rfl) B.int_ (by decide +kernel) (pa_cons (pe_op (op_zadd (K := (sC K).K)) (pe_ix (ix_z (K := (sC K).K) (w := w)) (pv 0) pe_int (fun _ _ => rfl)) (pe_op op_mul pe_int (pe_ix (ix_z (K := (sC K).K) (w := w)) (pv 0) pe_int (fun _ _ => rfl)))) pa_nil)) pe_int) pa_nil)) pe_int))
      (pss_cons (L2.ps_set (i := 4) nd rfl (by first | exact Or.inl rfl | exact Or.inr rfl | exact Or.inr (Or.inl rfl)) (pe_op op_mod (pe_callTy cr_int (by rfl) B.int_ (by decide +kernel) (pa_cons (pe_op op_mul (pv 4) (pe_op (op_zadd (K := (sC K).K)) (pe_op op_fdiv (pv 4) pe_int) pe_int)) pa_nil)) pe_int))
      (pss_cons (L2.ps_set (i := 4) nd rfl (by first | exact Or.inl rfl | exact Or.inr rfl | exact Or.inr (Or.inl rfl)) (pe_op op_mod (pe_callTy cr_int (by rfl) B.int_ (by decide +kernel) (pa_cons (pe_op op_mul (pv 4) (pe_op (op_zadd (K := (sC K).K)) (pe_op op_fdiv (pv 4) pe_int) pe_int)) pa_nil)) pe_int))
      (pss_one (L2.ps_ret (pe_op op_mod (pe_callTy cr_int (by rfl) B.int_ (by decide +kernel) (pa_cons (pe_op op_fdiv (pv 4) pe_int) pa_nil)) (pv 1)))))))))), body_run ok r k ?_⟩
  obtain ⟨p, n, rfl, h1, h2, ⟨ns, i, a, m, z, hg, hpot⟩, hP⟩ := hF
  have hn0 : 0 < n := by omega
  refine ps_cut (fun ρ1 g1 => PotIs g1 p ∧ Kept g g1 p ∧ ∃ e, ρ1 = [some (.r (.ref p)), some (.d (.int n)), e, none, none]) ?_ ?_
  · walk_at "ds"
    have same : PotIs g p ∧ Kept g g p ∧ ∃ e : Option EV, [some (.r (.ref p)), some (.d (.int n)), none, none, none] = [some (EV.r (.ref p)), some (.d (.int n)), e, none, none] := ⟨⟨ns, i, a, m, z, hg, hpot⟩, Kept.refl, _, rfl⟩
    refine ite_b (fun hb => ?_) (fun hb => ?_)
    · walk_at "ds"
      refine ite_b (fun hb2 => ?_) (fun hb2 => ?_)
      · have hi := of_decide_eq_true hb2
        obtain ⟨x, hx, hm⟩ := atI_some hpot.i0 hi
        obtain ⟨cell, hc, rfl⟩ := List.mem_map.mp hm
        have hc0 := hpot.ns0 cell hc
        walk_at "ds"
        refine o_ixL hx ?_
        walk_at "ds"
        (refine' ⟨_, _, _, 1, rfl, rfl, ?h, ?i, ?_⟩); (case h => first | assumption | exact put_same); (case i => rfl)
        walk_at "ds"
        (refine' ⟨_, _, _, 3, rfl, rfl, ?h, ?i, ?_⟩); (case h => first | assumption | exact put_same); (case i => rfl)
        walk_at "ds"
        refine o_iic ⟨by decide, by decide, by decide⟩ ?_
        walk_at "ds"
        refine ite_b (fun hb3 => ?_) (fun hb3 => ?_)
        · walk_at "ds"
          (refine' ⟨_, _, _, 2, rfl, rfl, ?h, ?i, ?_⟩); (case h => first | assumption | exact put_same); (case i => rfl)
          exact ⟨⟨_, _, _, _, _, put_same, ⟨hpot.ns0, by have := hpot.i0; omega, hc0, hpot.len⟩⟩, (Kept.put.trans Kept.put).trans Kept.put, _, rfl⟩
        · walk_at "ds"
          exact ⟨⟨_, _, _, _, _, put_same, ⟨hpot.ns0, by have := hpot.i0; omega, hpot.a0, hpot.len⟩⟩, Kept.put.trans Kept.put, _, rfl⟩
      · walk_at "ds"
        exact same
    · walk_at "ds"
      exact same
  · rintro ρ1 g1 ⟨⟨ns, i, a, m, z, hg, hpot⟩, hk, e, rfl⟩
    walk_at "ds"
    refine ite_b (fun hb => ?_) (fun hb => ?_)
    · walk_at "ds"
      refine o_iic ⟨hn0, h2⟩ ?_
      walk_at "ds"
      (refine' ⟨_, _, _, 2, rfl, rfl, ?h, ?i, ?_⟩); (case h => first | assumption | exact put_same); (case i => rfl)
      walk_at "ds"
      exact hP _ _ ⟨_, _, _, _, _, put_same, ⟨hpot.ns0, hpot.i0, Int.ediv_nonneg hpot.a0 (by omega), hpot.len⟩⟩ (hk.trans Kept.put) (Int.emod_nonneg _ (by omega)) (Int.emod_lt_of_pos _ hn0)
    · walk_at "ds"
      (refine' ⟨_, _, _, 4, rfl, rfl, ?h, ?i, ?_⟩); (case h => first | assumption | exact put_same); (case i => rfl)
      walk_at "ds"
      have b1 := Int.emod_nonneg ((m + 7919 * (z + 1)) * 48271) (b := 2147483647) (by decide)
      have b2 := Int.emod_lt_of_pos ((m + 7919 * (z + 1)) * 48271) (b := 2147483647) (by decide)
      generalize (m + 7919 * (z + 1)) * 48271 % 2147483647 = N at b1 b2 ⊢
      refine o_iic ⟨by decide, by decide⟩ ?_
      walk_at "ds"
      refine o_iic (.inl ⟨by omega, by omega⟩) ?_
      walk_at "ds"
      have b3 := Int.emod_nonneg (N * (N / 1009 + 69621)) (b := 2147483647) (by decide)
      have b4 := Int.emod_lt_of_pos (N * (N / 1009 + 69621)) (b := 2147483647) (by decide)
      generalize N * (N / 1009 + 69621) % 2147483647 = M at b3 b4 ⊢
      refine o_iic ⟨by decide, by decide⟩ ?_
      walk_at "ds"
      refine o_iic (.inl ⟨by omega, by omega⟩) ?_
      walk_at "ds"
      refine o_iic ⟨by decide, by decide⟩ ?_
      walk_at "ds"
      exact hP _ _ ⟨_, _, _, _, _, put_same, ⟨hpot.ns0, hpot.i0, hpot.a0, hpot.len⟩⟩ (hk.trans Kept.put) (Int.emod_nonneg _ (by omega)) (Int.emod_lt_of_pos _ hn0)
theorem ok__law_any {f : Addr} {fd : FuncData} (F : Fun K "_law_any" "_law_any" s__law_any f fd)   (B : Blt mg) {f__law_draw : Addr} {fd__law_draw : FuncData} {ps__law_draw : List Str} (D__law_draw : L2.Def P w K mg base 1 "_law_draw" f__law_draw fd__law_draw ps__law_draw (SpF K F__law_draw))  : FnOk P w K mg base CX0 2 f fd ["_law_pot_here", "_law_things"] (SpF K F__law_any) := by
  refine F.ok sc__law_any (fun vs H Q E h => ?_) (fun cdv A outer s H vs Q E hr h => ?_)
  · exact lenF h fun c g es P h => h.1
  obtain ⟨I, g, es, P, ok, r, hF, k⟩ := spFL h
  have nd := sc__law_any.nd
  have hu := hr.units
  have hu1 := hu_of hr
  refine ⟨_, (pss_one (L2.ps_ret (pe_ix (ix_z (K := (sC K).K) (w := w)) (pv 1) (pe_call D__law_draw.ok (hr.mono (by first | decide | omega)) rfl D__law_draw.at_ D__law_draw.kp D__law_draw.bd .nil pass0 (pa_cons (pv 0) (pa_cons (pe_callB (cr_len (K := (sC K).K)) (by rfl) B.len_ PySem.boot_len (pa_cons (pv 1) pa_nil)) pa_nil))) (fun _ _ => rfl)))), body_run ok r k ?_⟩
  obtain ⟨p, ds, rfl, hne, hl, hp, hP⟩ := hF
  have hl0 : 0 < ds.length := List.length_pos_iff.mpr hne
  walk_at "ds"
  refine use_FL rfl ⟨p, _, rfl, by omega, by omega, hp, fun g' r hp' hk h0 h1 => ?_⟩
  obtain ⟨x, hx, hm⟩ := atI_some h0 h1
  refine o_ixL hx ?_
  exact hP g' x hp' hk hm
theorem signs_are : ∀ x ∈ (Str.ofString " !\"#$&'()*+,-./0123456789:;<=>?@ABCDEFGHIJKLMNOPQRSTUVWXYZ[\\]^_`abcdefghijklmnopqrstuvwxyz{|}~").cps.toList, isSign x = true := by decide +kernel
theorem ok__law_signs {f : Addr} {fd : FuncData} (F : Fun K "_law_signs" "_law_signs" s__law_signs f fd)   (B : Blt mg) {f__law_draw : Addr} {fd__law_draw : FuncData} {ps__law_draw : List Str} (D__law_draw : L2.Def P w K mg base 1 "_law_draw" f__law_draw fd__law_draw ps__law_draw (SpF K F__law_draw))  : FnOk P w K mg base CX0 2 f fd ["_law_pot_here", "_law_many"] (SpF K F__law_signs) := by
  refine F.ok sc__law_signs (fun vs H Q E h => ?_) (fun cdv A outer s H vs Q E hr h => ?_)
  · exact lenF h fun c g es P h => h.1
  obtain ⟨I, g, es, P, ok, r, hF, k⟩ := spFL h
  have nd := sc__law_signs.nd
  have hu := hr.units
  have hu1 := hu_of hr
  refine ⟨_, (pss_cons (L2.ps_set (i := 2) nd rfl (by first | exact Or.inl rfl | exact Or.inr rfl | exact Or.inr (Or.inl rfl)) pe_str)
      (pss_one (L2.ps_ret (pe_joinZ (K := (sC K).K) pe_str (pe_lc (own := [("_law_k", 3)]) (g := gName 3) (tt := tYes) rfl nd (pi_range1 rfl B.range_ (pa_cons (pv 1) pa_nil)) (blkOk_by (N := ["_law_pot_here", "_law_many", "_law_signs_here", "_law_k"]) (sc := defScope s__law_signs) (by decide +kernel)) (fun _ _ _ _ _ => pg_name (i := 3) nd rfl (Or.inl rfl)) (fun _ _ _ _ _ => pts_nil) (fun _ _ _ _ _ => (pe_ix (ix_z (K := (sC K).K) (w := w)) (pv 2) (pe_call D__law_draw.ok (hr.mono (by first | decide | omega)) rfl D__law_draw.at_ D__law_draw.kp D__law_draw.bd .nil pass0 (pa_cons (pv 0) (pa_cons (pe_callB (cr_len (K := (sC K).K)) (by rfl) B.len_ PySem.boot_len (pa_cons (pv 2) pa_nil)) pa_nil))) (fun _ _ => rfl)))))))), body_run ok r k ?_⟩
  obtain ⟨p, n, rfl, h0, h1, hp, hP⟩ := hF
  refine Dl.ps_seq (Dl.ps_set ?_)
  walk_at "ds"
  refine pv_word (pit_rng1 ?_)
  walk_at "ds"
  refine ⟨by omega, by omega, by simp, by omega, fun x => isSign x = true, fun g2 => PotIs g2 p ∧ Kept g g2 p, ⟨hp, Kept.refl⟩, fun i g2 hi hJ => ?_, fun ns g2 hl hg hJ => ?_⟩
  · walk_at "ds"
    refine oc_lenS (le_line (Nat.le_of_ble_eq_true rfl)) ?_
    walk_at "ds"
    refine use_FL rfl ⟨p, _, rfl, by decide, by decide, hJ.1, fun g3 r hp3 hk3 h3 h4 => ?_⟩
    obtain ⟨x, hx, hm⟩ := atI_some (xs := (Str.ofString " !\"#$&'()*+,-./0123456789:;<=>?@ABCDEFGHIJKLMNOPQRSTUVWXYZ[\\]^_`abcdefghijklmnopqrstuvwxyz{|}~").cps.toList) h3 h4
    refine o_ixS (le_line (Nat.le_of_ble_eq_true rfl)) hx ?_
    exact ⟨x, rfl, signs_are x hm, hp3, hJ.2.trans hk3⟩
  · have q := text_ok (ns := ns) (by omega) hg
    exact hP g2 _ hJ.1 hJ.2 q.1 q.2
theorem ok__law_text {f : Addr} {fd : FuncData} (F : Fun K "_law_text" "_law_text" s__law_text f fd)   {f__law_signs : Addr} {fd__law_signs : FuncData} {ps__law_signs : List Str} (D__law_signs : L2.Def P w K mg base 2 "_law_signs" f__law_signs fd__law_signs ps__law_signs (SpF K F__law_signs)) {f__law_any : Addr} {fd__law_any : FuncData} {ps__law_any : List Str} (D__law_any : L2.Def P w K mg base 2 "_law_any" f__law_any fd__law_any ps__law_any (SpF K F__law_any))  : FnOk P w K mg base CX0 3 f fd ["_law_pot_here"] (SpF K F__law_text) := by
  refine F.ok sc__law_text (fun vs H Q E h => ?_) (fun cdv A outer s H vs Q E hr h => ?_)
  · exact lenF h fun c g es P h => h.1
  obtain ⟨I, g, es, P, ok, r, hF, k⟩ := spFL h
  have nd := sc__law_text.nd
  have hu := hr.units
  have hu1 := hu_of hr
  refine ⟨_, (pss_one (L2.ps_ret (pe_call D__law_signs.ok (hr.mono (by first | decide | omega)) rfl D__law_signs.at_ D__law_signs.kp D__law_signs.bd .nil pass0 (pa_cons (pv 0) (pa_cons (pe_call D__law_any.ok (hr.mono (by first | decide | omega)) rfl D__law_any.at_ D__law_any.kp D__law_any.bd .nil pass0 (pa_cons (pv 0) (pa_cons (pe_lst (pa_cons pe_int (pa_cons pe_int (pa_cons pe_int (pa_cons pe_int (pa_cons pe_int (pa_cons pe_int (pa_cons pe_int (pa_cons pe_int (pa_cons pe_int pa_nil)))))))))) pa_nil))) pa_nil))))), body_run ok r k ?_⟩
  obtain ⟨p, rfl, hp, hP⟩ := hF
  walk_at "ds"
  refine pv_lst2 ?_
  walk_at "ds"
  refine use_FL rfl ⟨p, _, rfl, by simp, by decide, hp, fun g1 d hp1 hk1 hd => ?_⟩
  obtain ⟨i, rfl, h0, h1⟩ : ∃ i, d = .int i ∧ 0 ≤ i ∧ i ≤ 96 := by
    simp only [List.mem_cons, List.not_mem_nil, or_false] at hd
    rcases hd with rfl | rfl | rfl | rfl | rfl | rfl | rfl | rfl | rfl <;> exact ⟨_, rfl, by decide, by decide⟩
  walk_at "ds"
  exact use_FL rfl ⟨p, _, rfl, h0, h1, hp1, fun g2 z hp2 hk2 ht hf => hP g2 z hp2 (hk1.trans hk2) ht hf⟩
theorem ok__law_name {f : Addr} {fd : FuncData} (F : Fun K "_law_name" "_law_name" s__law_name f fd)   (B : Blt mg) {f__law_any : Addr} {fd__law_any : FuncData} {ps__law_any : List Str} (D__law_any : L2.Def P w K mg base 2 "_law_any" f__law_any fd__law_any ps__law_any (SpF K F__law_any)) {f__law_draw : Addr} {fd__law_draw : FuncData} {ps__law_draw : List Str} (D__law_draw : L2.Def P w K mg base 1 "_law_draw" f__law_draw fd__law_draw ps__law_draw (SpF K F__law_draw))  : FnOk P w K mg base CX0 3 f fd ["_law_pot_here"] (SpF K F__law_name) := by
  refine F.ok sc__law_name (fun vs H Q E h => ?_) (fun cdv A outer s H vs Q E hr h => ?_)
  · exact lenF h fun c g es P h => h.1
  obtain ⟨I, g, es, P, ok, r, hF, k⟩ := spFL h
  have nd := sc__law_name.nd
  have hu := hr.units
  have hu1 := hu_of hr
  refine ⟨_, (pss_cons (L2.ps_set (i := 1) nd rfl (by first | exact Or.inl rfl | exact Or.inr rfl | exact Or.inr (Or.inl rfl)) (pe_call D__law_any.ok (hr.mono (by first | decide | omega)) rfl D__law_any.at_ D__law_any.kp D__law_any.bd .nil pass0 (pa_cons (pv 0) (pa_cons (pe_lst (pa_cons pe_int (pa_cons pe_int (pa_cons pe_int (pa_cons pe_int (pa_cons pe_int (pa_cons pe_int pa_nil))))))) pa_nil))))
      (pss_one (L2.ps_ret (pe_joinZ (K := (sC K).K) pe_str (pe_lc (own := [("_law_k", 2)]) (g := gName 2) (tt := tYes) rfl nd (pi_range1 rfl B.range_ (pa_cons (pv 1) pa_nil)) (blkOk_by (N := ["_law_pot_here", "_law_many", "_law_k"]) (sc := defScope s__law_name) (by decide +kernel)) (fun _ _ _ _ _ => pg_name (i := 2) nd rfl (Or.inl rfl)) (fun _ _ _ _ _ => pts_nil) (fun _ _ _ _ _ => (pe_ix (ix_z (K := (sC K).K) (w := w)) pe_str (pe_call D__law_draw.ok (hr.mono (by first | decide | omega)) rfl D__law_draw.at_ D__law_draw.kp D__law_draw.bd .nil pass0 (pa_cons (pv 0) (pa_cons pe_int pa_nil))) (fun _ _ => rfl)))))))), body_run ok r k ?_⟩
  obtain ⟨p, rfl, hp, hP⟩ := hF
  refine Dl.ps_seq (Dl.ps_set ?_)
  walk_at "ds"
  refine pv_lst2 ?_
  walk_at "ds"
  refine use_FL rfl ⟨p, _, rfl, by simp, by decide, hp, fun g1 d hp1 hk1 hd => ?_⟩
  obtain ⟨n, rfl, h0, h1⟩ : ∃ i, d = .int i ∧ 1 ≤ i ∧ i ≤ 8 := by
    simp only [List.mem_cons, List.not_mem_nil, or_false] at hd
    rcases hd with rfl | rfl | rfl | rfl | rfl | rfl <;> exact ⟨_, rfl, by decide, by decide⟩
  walk_at "ds"
  refine pv_word (pit_rng1 ?_)
  walk_at "ds"
  refine ⟨by omega, by omega, by simp, by omega, fun x => x ∈ lows.cps.toList, fun g2 => PotIs g2 p ∧ Kept g g2 p, ⟨hp1, hk1⟩, fun i g2 hi hJ => ?_, fun ns g2 hl hg hJ => ?_⟩
  · walk_at "ds"
    refine use_FL rfl ⟨p, _, rfl, by decide, by decide, hJ.1, fun g3 r hp3 hk3 h3 h4 => ?_⟩
    obtain ⟨x, hx, hm⟩ := atI_some (xs := lows.cps.toList) h3 h4
    refine o_ixS (le_line (Nat.le_of_ble_eq_true rfl)) hx ?_
    exact ⟨x, rfl, hm, hp3, hJ.2.trans hk3⟩
  · have q := name_ok (ns := ns) (by omega) (by omega) hg
    exact hP g2 _ hJ.1 hJ.2 q.1 q.2
theorem ok__law_account {f : Addr} {fd : FuncData} (F : Fun K "_law_account" "_law_account" s__law_account f fd)   (B : Blt mg)  : FnOk P w K mg base CX0 1 f fd ["_law_begin"] (SpF K F__law_account) := by
  refine F.ok sc__law_account (fun vs H Q E h => ?_) (fun cdv A outer s H vs Q E hr h => ?_)
  · exact lenF h fun c g es P h => h.1
  obtain ⟨I, g, es, P, ok, r, hF, k⟩ := spFL h
  have nd := sc__law_account.nd
  have hu := hr.units
  have hu1 := hu_of hr
  refine ⟨_, (pss_one (L2.ps_ret (pe_disp (pps_cons pe_str (pe_ix (ix_z (K := (sC K).K) (w := w)) (pv 0) pe_int (fun _ _ => rfl)) (pps_cons pe_str (pe_ix (ix_z (K := (sC K).K) (w := w)) (pv 0) pe_int (fun _ _ => rfl)) (pps_cons pe_str (pe_callTy (cr_list (K := (sC K).K)) (by rfl) B.list_ PyProof.Rows.boot_list (pa_cons (pe_ix (ix_z (K := (sC K).K) (w := w)) (pv 0) pe_int (fun _ _ => rfl)) pa_nil)) (pps_cons pe_str pe_int pps_nil)))) (by rfl) (by rfl) (fun z => by cases z) (by decide)))), body_run ok r k ?_⟩
  obtain ⟨b, n, p, rfl, hP⟩ := hF
  walk_at "ds"
  refine pv_disp ?_
  refine pp_cons ?_
  walk_at "ds"
  refine pp_cons ?_
  walk_at "ds"
  refine pp_cons ?_
  walk_at "ds"
  refine oc_listM fun wr hw => ?_
  refine pp_cons ?_
  walk_at "ds"
  refine pp_nil ⟨by show 4 ≤ 15; decide, fun q hq => ?_⟩
  have ne : q ≠ wr := fun e => by rw [e, put_same] at hq; cases hq
  rw [put_ne ne] at hq
  refine hP q wr _ hq hw ⟨?_, ?_, rfl, Nat.zero_le _, Nat.le_refl _, ne⟩ fun x h1 h2 => ?_
  · rw [put_same]
    rfl
  · rw [put_ne ne.symm, put_same]
  · rw [put_ne h1, put_ne h2]
theorem ok__law_sheet_of {f : Addr} {fd : FuncData} (F : Fun K "_law_sheet_of" "_law_sheet_of" s__law_sheet_of f fd)   (B : Blt mg)  : FnOk P w K mg base CX0 1 f fd ["_law_account_here"] (SpF K F__law_sheet_of) := by
  refine F.ok sc__law_sheet_of (fun vs H Q E h => ?_) (fun cdv A outer s H vs Q E hr h => ?_)
  · exact lenF h fun c g es P h => h.1
  obtain ⟨I, g, es, P, ok, r, hF, k⟩ := spFL h
  have nd := sc__law_sheet_of.nd
  have hu := hr.units
  have hu1 := hu_of hr
  refine ⟨_, (pss_one (L2.ps_ret (pe_tup (pa_cons (pe_dget hu1 (pv 0) pe_str (fun _ _ => rfl)) (pa_cons (pe_dget hu1 (pv 0) pe_str (fun _ _ => rfl)) (pa_cons (pe_callTy (cr_tuple (K := (sC K).K)) (by rfl) B.tuple_ PyProof.Rows.boot_tuple (pa_cons (pe_slice (sl_z (K := (sC K).K)) (pe_dget hu1 (pv 0) pe_str (fun _ _ => rfl)) (po_some (pe_dget hu1 (pv 0) pe_str (fun _ _ => rfl))) po_none) pa_nil)) pa_nil)))))), body_run ok r k ?_⟩
  obtain ⟨a, wr, m, b, n, p, ws, k0, rfl, hA, hP⟩ := hF
  walk_at "ds"
  refine ⟨_, _, _, _, rfl, rfl, hA.ga, rfl, ?_⟩
  walk_at "ds"
  refine ⟨_, _, _, _, rfl, rfl, hA.ga, rfl, ?_⟩
  walk_at "ds"
  refine ⟨_, _, _, _, rfl, rfl, hA.ga, rfl, ?_⟩
  walk_at "ds"
  refine ⟨_, _, _, _, rfl, rfl, hA.ga, rfl, ?_⟩
  walk_at "ds"
  refine os_mut hA.gw ?_
  rw [cut_drop, hA.dr]
  walk_at "ds"
  refine oc_tupleL ?_
  walk_at "ds"
  exact hP
end Pr

set_option Elab.async false
set_option linter.all false
set_option autoImplicit false
set_option maxRecDepth 100000
set_option maxHeartbeats 4000000
namespace Pr
open PySem PySem.Spec PyProof.Rows L2 Dl
local macro_rules | `(tactic| walk_at "dl1") => `(tactic| first
  | (with_reducible refine ps_seq ?_)
  | (with_reducible refine ps_ret ?_)
  | (with_reducible refine ps_if ?_)
  | (with_reducible refine ps_set ?_)
  | (with_reducible refine ps_next ?_)
  | (with_reducible refine ps_drop ?_)
  | ((with_reducible refine' pv_var ?k1 ?_); (case k1 => rfl))
  | (with_reducible refine pv_int ?_)
  | (with_reducible refine pv_str ?_)
  | (with_reducible refine pv_bl ?_)
  | (with_reducible refine pv_non ?_)
  | (with_reducible refine pv_and ?_)
  | (with_reducible refine pv_or ?_)
  | (with_reducible refine pv_not ?_)
  | (with_reducible refine pv_if ?_)
  | (with_reducible refine pv_op ?_)
  | (with_reducible refine pv_un ?_)
  | (with_reducible refine pv_chain ?_)
  | (with_reducible refine pv_tup ?_)
  | (with_reducible refine pv_lst2 ?_)
  | (with_reducible refine pv_call ?_)
  | (with_reducible refine pv_allT ?_)
  | (with_reducible refine pv_allS ?_)
  | (with_reducible refine pv_allR ?_)
  | (with_reducible refine pv_lcT ?_)
  | (with_reducible refine pv_lcL ?_)
  | (with_reducible refine pv_lcTF ?_)
  | (with_reducible refine pv_listRg2 ?_)
  | (with_reducible refine pv_cb ?_)
  | (with_reducible refine pv_sl ?_)
  | (with_reducible refine pp_none ?_)
  | (with_reducible refine pp_some ?_)
  | (with_reducible refine pas_nil ?_)
  | (with_reducible refine pas_cons ?_)
  | (with_reducible refine pb_test' ?_)
  | (with_reducible refine pb_B ?_)
  | (with_reducible refine pb_and ?_)
  | (with_reducible refine pb_or ?_)
  | (with_reducible refine pb_not ?_)
  | (with_reducible refine oc_isi (isT_int _) ?_)
  | (with_reducible refine oc_isi (isT_bool _) ?_)
  | (with_reducible refine oc_isi (isT_str _) ?_)
  | (with_reducible refine oc_isi (isT_tuple _) ?_)
  | (with_reducible refine oc_isi (isT_list _) ?_)
  | (with_reducible refine oc_lenT ?_)
  | (with_reducible refine oc_lenL ?_)
  | (with_reducible refine oc_lenR ?_)
  | (with_reducible refine o_add ?_)
  | (with_reducible refine o_ii ?_)
  | (with_reducible refine o_ib ?_)
  | (with_reducible refine o_le ?_)
  | (with_reducible refine o_lt ?_)
  | (with_reducible refine o_eqI ?_)
  | (with_reducible refine o_neI ?_)
  | (with_reducible refine o_eqS ?_)
  | (with_reducible refine o_eqB ?_)
  | (with_reducible refine o_neB ?_)
  | ((with_reducible refine' pv_const ?k1 ?_); (case k1 => assumption))
  | (with_reducible refine pv_raw ?_)
  | ((with_reducible refine oc_lenS ?k1 ?_); (case k1 => assumption))
  | (with_reducible refine o_leS ?_)
  | (with_reducible refine o_inS ?_)
  | ((with_reducible refine' o_isN ?k1 ?_); (case k1 => rfl))
  | ((with_reducible refine' o_notN ?k1 ?_); (case k1 => rfl))
  | (with_reducible refine o_isntB ?_)
  | ((with_reducible refine' o_ixT ?k1 ?_); (case k1 => first | exact at0 | exact at1 | rfl))
  | (with_reducible refine os_tup ?_)
  | ((with_reducible refine ite_t ?k1 ?_); (case k1 => rfl))
  | ((with_reducible refine ite_f ?k1 ?_); (case k1 => rfl))
  | ((with_reducible refine use_FJ ?k1 ?_); (case k1 => first | rfl | assumption))
  | (with_reducible refine use_is_between ?_)
  | (with_reducible refine use_is_tuple_of ?_)
  | (refine Or.inl (Exists.intro _ (And.intro rfl (And.intro (le_line (Nat.le_of_ble_eq_true rfl)) ?_))))
  | (refine Or.inr (Exists.intro _ (And.intro rfl (And.intro (le_line (Nat.le_of_ble_eq_true rfl)) ?_))))
  | (with_reducible refine Exists.intro _ (And.intro rfl ?_))
  | ((with_reducible refine And.intro ?k1 ?_); (case k1 => exact le_line (Nat.le_of_ble_eq_true rfl))))
local macro_rules | `(tactic| walk_at "dl") => `(tactic| repeat walk_at "dl1")

variable {P : Program} {w : World} {K : PySem.W.Frag} {mg : Str → Option Value} {base : Heap}
theorem ok__law_is0 {f : Addr} {fd : FuncData} (F : Fun K "_law_is" "_law_is" s__law_is f fd) : FnOk P w K mg base CX0 1 f fd ["_law_told", "_law_due"] (SpF K (F__law_is 0)) := by
  refine F.ok sc__law_is (fun vs H Q E h => ?_) (fun cdv A outer s H vs Q E hr h => ?_)
  · exact lenF h fun c g es P h => h.1
  · obtain ⟨c, I, g, es, P, rfl, ok, r, ⟨-, d, -, -, hd, -⟩, k⟩ := h
    exact absurd hd (Nat.not_lt_zero _)
theorem ok__law_is {f : Addr} {fd : FuncData} (F : Fun K "_law_is" "_law_is" s__law_is f fd)  {k0 : Nat} (B : Blt mg) {f__law_is : Addr} {fd__law_is : FuncData} {ps__law_is : List Str} (D__law_is : L2.Def P w K mg base (k0+1) "_law_is" f__law_is fd__law_is ps__law_is (SpF K (F__law_is k0)))  : FnOk P w K mg base CX0 (k0+2) f fd ["_law_told", "_law_due"] (SpF K (F__law_is (k0+1))) := by
  refine F.ok sc__law_is (fun vs H Q E h => ?_) (fun cdv A outer s H vs Q E hr h => ?_)
  · exact lenF h fun c g es P h => h.1
  obtain ⟨c, I, g, es, P, rfl, ok, r, hF, k⟩ := h
  have nd := sc__law_is.nd
  have hu := hr.units
  have hu1 := hu_of hr
  refine ⟨_, (pss_cons (L2.ps_if (pt_val (pe_callB (cr_isiT (K := c.K)) (by rfl) B.isinstance_ (by decide +kernel) (pa_cons (pv 1) (pa_cons (pe_tup (pa_cons (pe_bltn (v := .ty "tuple") (by rfl) B.tuple_ PyProof.Rows.boot_tuple rfl) (pa_cons (pe_bltn (v := .ty "list") (by rfl) B.list_ PyProof.Rows.boot_list rfl) pa_nil))) pa_nil)))) (pss_cons (L2.ps_if (PW.pt (pw_or (pt_cmpR (op_zne (K := c.K) hu) (pe_callB (cr_isi (K := c.K)) (by rfl) B.isinstance_ (by decide +kernel) (pa_cons (pv 0) (pa_cons (pe_bltn (v := .ty "tuple") (by rfl) B.tuple_ PyProof.Rows.boot_tuple rfl) pa_nil))) (pe_callB (cr_isi (K := c.K)) (by rfl) B.isinstance_ (by decide +kernel) (pa_cons (pv 1) (pa_cons (pe_bltn (v := .ty "tuple") (by rfl) B.tuple_ PyProof.Rows.boot_tuple rfl) pa_nil))) (nomark _)) (pw_or1 (pt_cmpR (op_zne (K := c.K) hu) (pe_callB (cr_isi (K := c.K)) (by rfl) B.isinstance_ (by decide +kernel) (pa_cons (pv 0) (pa_cons (pe_bltn (v := .ty "list") (by rfl) B.list_ PyProof.Rows.boot_list rfl) pa_nil))) (pe_callB (cr_isi (K := c.K)) (by rfl) B.isinstance_ (by decide +kernel) (pa_cons (pv 1) (pa_cons (pe_bltn (v := .ty "list") (by rfl) B.list_ PyProof.Rows.boot_list rfl) pa_nil))) (nomark _))))) (pss_one (L2.ps_ret pe_bl)) pss_nil)
      (pss_one (L2.ps_ret (pe_and (pe_cmpR (op_zeq (K := c.K) hu) (pe_callB (cr_len (K := c.K)) (by rfl) B.len_ PySem.boot_len (pa_cons (pv 0) pa_nil)) (pe_callB (cr_len (K := c.K)) (by rfl) B.len_ PySem.boot_len (pa_cons (pv 1) pa_nil)) (nomark _)) (pe_one (pe_callB (cr_allZ (K := c.K) rfl) (by rfl) B.all_ (by decide +kernel) (pa_cons (pe_lc (own := [("_law_k", 2)]) (g := gName 2) (tt := tYes) rfl nd (pi_range1 rfl B.range_ (pa_cons (pe_callB (cr_len (K := c.K)) (by rfl) B.len_ PySem.boot_len (pa_cons (pv 1) pa_nil)) pa_nil)) (blkOk_by (N := ["_law_told", "_law_due", "_law_k"]) (sc := defScope s__law_is) (by decide +kernel)) (fun _ _ _ _ _ => pg_name (i := 2) nd rfl (Or.inl rfl)) (fun _ _ _ _ _ => pts_nil) (fun _ _ _ _ _ => (pe_call D__law_is.ok (hr.mono (by first | decide | omega)) rfl D__law_is.at_ D__law_is.kp D__law_is.bd .nil pass0 (pa_cons (pe_ix (ix_z (K := c.K) (w := w)) (pv 0) (pv 2) (fun _ _ => rfl)) (pa_cons (pe_ix (ix_z (K := c.K) (w := w)) (pv 1) (pv 2) (fun _ _ => rfl)) pa_nil))))) pa_nil))))))) pss_nil)
      (pss_one (L2.ps_ret (pe_and (pe_cmpR (op_zeq (K := c.K) hu) (pe_callB (cr_isi (K := c.K)) (by rfl) B.isinstance_ (by decide +kernel) (pa_cons (pv 0) (pa_cons (pe_bltn (v := .ty "bool") (by rfl) B.bool_ PyProof.Rows.boot_bool rfl) pa_nil))) (pe_callB (cr_isi (K := c.K)) (by rfl) B.isinstance_ (by decide +kernel) (pa_cons (pv 1) (pa_cons (pe_bltn (v := .ty "bool") (by rfl) B.bool_ PyProof.Rows.boot_bool rfl) pa_nil))) (nomark _)) (pe_one (pe_cmpR (op_zeq (K := c.K) hu) (pv 0) (pv 1) (nomark _))))))), body_run ok r k ?_⟩
  obtain ⟨-, d, rfl, hf, hd, hP⟩ := hF
  refine Dl.ps_seq (Dl.ps_if (pb_test' (pv_isi2 ?_)))
  walk_at "dl"
  refine ⟨_, _, _, rfl, isT_tuple d, isT_list d, _, rfl, ?_⟩
  have sc0 : ∀ x : PyData, PyData.eqv x x = true → P (.d (.bool (PyData.eqv x x))) g → P (.d (.bool true)) g := fun x e h => by rw [e] at h; exact h
  cases d with
  | tuple ds =>
    walk_at "dl"
    refine ite_t (by simp) ?_
    walk_at "dl"
    refine ⟨_, _, rfl, rfl, by simp, by have := (fit_tup.mp hf).1; omega, by omega, fun _ => true, fun i hi => ?_, fin hP (by simp)⟩
    have hi' : i < ds.length := by omega
    have e : atI ds (i : Int) = some ds[i] := atI_nat (List.getElem?_eq_getElem hi')
    have hm : ds[i] ∈ ds := List.getElem_mem hi'
    walk_at "dl"
    refine o_ixT e ?_
    walk_at "dl"
    refine o_ixT e ?_
    walk_at "dl"
    refine ⟨rfl, ds[i], rfl, (fit_tup.mp hf).2 _ hm, ?_, rfl, rfl⟩
    have h1 : (ds[i]).depth ≤ PyData.depthAll ds := depth_mem hm
    simp only [PyData.depth] at hd
    omega
  | list ds =>
    walk_at "dl"
    refine ite_t (by simp) ?_
    walk_at "dl"
    refine ⟨_, _, rfl, rfl, by simp, by have := (fit_lst.mp hf).1; omega, by omega, fun _ => true, fun i hi => ?_, fin hP (by simp)⟩
    have hi' : i < ds.length := by omega
    have e : atI ds (i : Int) = some ds[i] := atI_nat (List.getElem?_eq_getElem hi')
    have hm : ds[i] ∈ ds := List.getElem_mem hi'
    walk_at "dl"
    refine o_ixL e ?_
    walk_at "dl"
    refine o_ixL e ?_
    walk_at "dl"
    refine ⟨rfl, ds[i], rfl, (fit_lst.mp hf).2 _ hm, ?_, rfl, rfl⟩
    have h1 : (ds[i]).depth ≤ PyData.depthAll ds := depth_mem hm
    simp only [PyData.depth] at hd
    omega
  | none =>
    walk_at "dl"
    refine o_eq rfl rfl (by simp [PyData.depth]) (by simp [PyData.depth]) ?_
    exact hP
  | dict kvs => cases hf
  | _ =>
    walk_at "dl"
    exact fin hP (by simp)
end Pr

set_option Elab.async false
set_option linter.all false
set_option autoImplicit false
set_option maxRecDepth 100000
set_option maxHeartbeats 4000000
namespace Pr
open PySem PySem.Spec PyProof.Rows L2 Dl
local macro_rules | `(tactic| walk_at "ds1") => `(tactic| first
  | (with_reducible refine ps_seq ?_)
  | (with_reducible refine ps_ret ?_)
  | (with_reducible refine ps_if ?_)
  | (with_reducible refine ps_set ?_)
  | (with_reducible refine ps_next ?_)
  | (with_reducible refine ps_drop ?_)
  | ((with_reducible refine' pv_var ?k1 ?_); (case k1 => rfl))
  | (with_reducible refine pv_int ?_)
  | (with_reducible refine pv_str ?_)
  | (with_reducible refine pv_bl ?_)
  | (with_reducible refine pv_non ?_)
  | (with_reducible refine pv_and ?_)
  | (with_reducible refine pv_or ?_)
  | (with_reducible refine pv_not ?_)
  | (with_reducible refine pv_if ?_)
  | (with_reducible refine pv_op ?_)
  | (with_reducible refine pv_un ?_)
  | (with_reducible refine pv_chain ?_)
  | (with_reducible refine pv_tup ?_)
  | (with_reducible refine pv_call ?_)
  | (with_reducible refine pv_allT ?_)
  | (with_reducible refine pv_allS ?_)
  | (with_reducible refine pv_allR ?_)
  | (with_reducible refine pv_lcT ?_)
  | (with_reducible refine pv_lcL ?_)
  | (with_reducible refine pv_lcTF ?_)
  | (with_reducible refine pv_listRg2 ?_)
  | (with_reducible refine pv_cb ?_)
  | (with_reducible refine pv_sl ?_)
  | (with_reducible refine pp_none ?_)
  | (with_reducible refine pp_some ?_)
  | (with_reducible refine pas_nil ?_)
  | (with_reducible refine pas_cons ?_)
  | (with_reducible refine pb_test' ?_)
  | (with_reducible refine pb_B ?_)
  | (with_reducible refine pb_and ?_)
  | (with_reducible refine pb_or ?_)
  | (with_reducible refine pb_not ?_)
  | (with_reducible refine oc_isi (isT_int _) ?_)
  | (with_reducible refine oc_isi (isT_bool _) ?_)
  | (with_reducible refine oc_isi (isT_str _) ?_)
  | (with_reducible refine oc_isi (isT_tuple _) ?_)
  | (with_reducible refine oc_isi (isT_list _) ?_)
  | (with_reducible refine oc_lenT ?_)
  | (with_reducible refine oc_lenL ?_)
  | (with_reducible refine oc_lenR ?_)
  | (with_reducible refine o_add ?_)
  | ((with_reducible refine' o_iic ?k1 ?_); (case k1 => first | (show (0 : Int) < _; first | decide | assumption | omega) | exact Or.inr ⟨by decide, by decide⟩ | exact Or.inl ⟨by decide, by decide⟩))
  | (with_reducible refine pv_dget ?_)
  | (with_reducible refine o_neg ?_)
  | (with_reducible refine oc_int ?_)
  | (with_reducible refine oc_abs ?_)
  | (with_reducible refine o_ii ?_)
  | (with_reducible refine o_ib ?_)
  | (with_reducible refine o_le ?_)
  | (with_reducible refine o_lt ?_)
  | (with_reducible refine o_eqI ?_)
  | (with_reducible refine o_neI ?_)
  | (with_reducible refine o_eqS ?_)
  | (with_reducible refine o_eqB ?_)
  | (with_reducible refine o_neB ?_)
  | ((with_reducible refine' pv_const ?k1 ?_); (case k1 => assumption))
  | (with_reducible refine pv_raw ?_)
  | ((with_reducible refine oc_lenS ?k1 ?_); (case k1 => assumption))
  | (with_reducible refine o_leS ?_)
  | (with_reducible refine o_inS ?_)
  | ((with_reducible refine' o_isN ?k1 ?_); (case k1 => rfl))
  | ((with_reducible refine' o_notN ?k1 ?_); (case k1 => rfl))
  | (with_reducible refine o_isntB ?_)
  | ((with_reducible refine' o_ixM ?k1 ?k2 ?_); (case k1 => first | assumption | exact put_same); (case k2 => first | exact at0 | exact at1 | exact atI_nat (j := 2) rfl | exact atI_nat (j := 3) rfl | exact atI_nat (j := 4) rfl))
  | (with_reducible refine ps_setix ?_)
  | (with_reducible refine os_lst ?_)
  | ((with_reducible refine' o_ixT ?k1 ?_); (case k1 => first | exact at0 | exact at1 | rfl))
  | (with_reducible refine os_tup ?_)
  | ((with_reducible refine ite_t ?k1 ?_); (case k1 => rfl))
  | ((with_reducible refine ite_f ?k1 ?_); (case k1 => rfl))
  | ((with_reducible refine use_FJ ?k1 ?_); (case k1 => first | rfl | assumption))
  | (with_reducible refine use_is_between ?_)
  | (with_reducible refine use_is_tuple_of ?_)
  | (refine Or.inl (Exists.intro _ (And.intro rfl (And.intro (le_line (Nat.le_of_ble_eq_true rfl)) ?_))))
  | (refine Or.inr (Exists.intro _ (And.intro rfl (And.intro (le_line (Nat.le_of_ble_eq_true rfl)) ?_))))
  | (with_reducible refine Exists.intro _ (And.intro rfl ?_))
  | ((with_reducible refine And.intro ?k1 ?_); (case k1 => exact le_line (Nat.le_of_ble_eq_true rfl))))
local macro_rules | `(tactic| walk_at "ds") => `(tactic| repeat walk_at "ds1")

variable {P : Program} {w : World} {K : PySem.W.Frag} {mg : Str → Option Value} {base : Heap}
theorem ok__law_edit {f : Addr} {fd : FuncData} (F : Fun K "_law_edit" "_law_edit" s__law_edit f fd)   {f__law_name : Addr} {fd__law_name : FuncData} {ps__law_name : List Str} (D__law_name : L2.Def P w K mg base 3 "_law_name" f__law_name fd__law_name ps__law_name (SpF K F__law_name)) {f__law_draw : Addr} {fd__law_draw : FuncData} {ps__law_draw : List Str} (D__law_draw : L2.Def P w K mg base 1 "_law_draw" f__law_draw fd__law_draw ps__law_draw (SpF K F__law_draw)) {f__law_text : Addr} {fd__law_text : FuncData} {ps__law_text : List Str} (D__law_text : L2.Def P w K mg base 3 "_law_text" f__law_text fd__law_text ps__law_text (SpF K F__law_text)) {f__law_any : Addr} {fd__law_any : FuncData} {ps__law_any : List Str} (D__law_any : L2.Def P w K mg base 2 "_law_any" f__law_any fd__law_any ps__law_any (SpF K F__law_any))  : FnOk P w K mg base CX0 4 f fd ["_law_pot_here"] (SpF K F__law_edit) := by
  refine F.ok sc__law_edit (fun vs H Q E h => ?_) (fun cdv A outer s H vs Q E hr h => ?_)
  · exact lenF h fun c g es P h => h.1
  obtain ⟨I, g, es, P, ok, r, hF, k⟩ := spFL h
  have nd := sc__law_edit.nd
  have hu := hr.units
  have hu1 := hu_of hr
  refine ⟨_, (pss_cons (ps_par3 (i := 1) (j := 2) (l := 3) rfl nd rfl rfl rfl (by decide) (by decide) (by decide) rfl rfl rfl (pa_cons (pe_call D__law_name.ok (hr.mono (by first | decide | omega)) rfl D__law_name.at_ D__law_name.kp D__law_name.bd .nil pass0 (pa_cons (pv 0) pa_nil)) (pa_cons (pe_op (op_zadd (K := (sC K).K)) pe_int (pe_call D__law_draw.ok (hr.mono (by first | decide | omega)) rfl D__law_draw.at_ D__law_draw.kp D__law_draw.bd .nil pass0 (pa_cons (pv 0) (pa_cons pe_int pa_nil)))) (pa_cons (pe_op (op_zadd (K := (sC K).K)) pe_int (pe_call D__law_draw.ok (hr.mono (by first | decide | omega)) rfl D__law_draw.at_ D__law_draw.kp D__law_draw.bd .nil pass0 (pa_cons (pv 0) (pa_cons pe_int pa_nil)))) pa_nil))) (by rfl))
      (pss_cons (L2.ps_set (i := 4) nd rfl (by first | exact Or.inl rfl | exact Or.inr rfl | exact Or.inr (Or.inl rfl)) (pe_lst (pa_cons (pe_tup (pa_cons pe_str (pa_cons (pe_call D__law_text.ok (hr.mono (by first | decide | omega)) rfl D__law_text.at_ D__law_text.kp D__law_text.bd .nil pass0 (pa_cons (pv 0) pa_nil)) pa_nil))) (pa_cons (pe_tup (pa_cons pe_str (pa_cons (pe_call D__law_draw.ok (hr.mono (by first | decide | omega)) rfl D__law_draw.at_ D__law_draw.kp D__law_draw.bd .nil pass0 (pa_cons (pv 0) (pa_cons pe_int pa_nil))) (pa_cons (pe_call D__law_draw.ok (hr.mono (by first | decide | omega)) rfl D__law_draw.at_ D__law_draw.kp D__law_draw.bd .nil pass0 (pa_cons (pv 0) (pa_cons pe_int pa_nil))) (pa_cons (pe_call D__law_text.ok (hr.mono (by first | decide | omega)) rfl D__law_text.at_ D__law_text.kp D__law_text.bd .nil pass0 (pa_cons (pv 0) pa_nil)) pa_nil))))) (pa_cons (pe_tup (pa_cons pe_str pa_nil)) pa_nil)))))
      (pss_one (L2.ps_ret (pe_call D__law_any.ok (hr.mono (by first | decide | omega)) rfl D__law_any.at_ D__law_any.kp D__law_any.bd .nil pass0 (pa_cons (pv 0) (pa_cons (pe_op (op_zadd (K := (sC K).K)) (pv 4) (pe_lst (pa_cons (pe_tup (pa_cons pe_str (pa_cons (pv 1) pa_nil))) (pa_cons (pe_tup (pa_cons pe_str (pa_cons (pv 2) (pa_cons (pv 3) pa_nil)))) (pa_cons (pe_tup (pa_cons pe_str (pa_cons (pv 2) (pa_cons (pv 3) pa_nil)))) pa_nil))))) pa_nil))))))), body_run ok r k ?_⟩
  obtain ⟨p, rfl, hp, hP⟩ := hF
  refine Dl.ps_seq (ps_par3' ?_)
  walk_at "ds"
  refine use_FL rfl ⟨p, rfl, hp, fun g1 nm hp1 hk1 hn hnf => ?_⟩
  walk_at "ds"
  refine use_FL rfl ⟨p, _, rfl, by decide, by decide, hp1, fun g2 i hp2 hk2 hi0 hi1 => ?_⟩
  walk_at "ds"
  refine use_FL rfl ⟨p, _, rfl, by decide, by decide, hp2, fun g3 j hp3 hk3 hj0 hj1 => ?_⟩
  walk_at "ds"
  refine ⟨_, _, _, rfl, ?_⟩
  walk_at "ds"
  refine pv_lstM ?_
  walk_at "ds"
  refine use_FL rfl ⟨p, rfl, hp3, fun g4 t1 hp4 hk4 ht1 hf1 => ?_⟩
  walk_at "ds"
  refine use_FL rfl ⟨p, _, rfl, by decide, by decide, hp4, fun g5 x hp5 hk5 hx0 hx1 => ?_⟩
  walk_at "ds"
  refine use_FL rfl ⟨p, _, rfl, by decide, by decide, hp5, fun g6 y hp6 hk6 hy0 hy1 => ?_⟩
  walk_at "ds"
  refine use_FL rfl ⟨p, rfl, hp6, fun g7 t2 hp7 hk7 ht2 hf2 => ?_⟩
  walk_at "ds"
  intro s1 hs1
  have hk := (((((hk1.trans hk2).trans hk3).trans hk4).trans hk5).trans hk6).trans hk7
  walk_at "ds"
  refine pv_lstM ?_
  walk_at "ds"
  intro s2 hs2
  have n12 : s1 ≠ s2 := fun e => by rw [← e, put_same] at hs2; cases hs2
  refine o_catM (ds := [.tuple [.str "put", .str t1], .tuple [.str "splice", .int x, .int y, .str t2], .tuple [.str "remove"]]) (es := [.tuple [.str "take", .str nm], .tuple [.str "adopt", .int (1 + i), .int (1 + j)], .tuple [.str "drop", .int (1 + i), .int (1 + j)]]) (le_line (by simp)) (by rw [put_ne n12]; exact put_same) put_same ?_
  walk_at "ds"
  have hp8 := (hp7.new (o := .ml (List.map .d [.tuple [.str "put", .str t1], .tuple [.str "splice", .int x, .int y, .str t2], .tuple [.str "remove"]])) hs1).new (o := .ml (List.map .d [.tuple [.str "take", .str nm], .tuple [.str "adopt", .int (1 + i), .int (1 + j)], .tuple [.str "drop", .int (1 + i), .int (1 + j)]])) hs2
  refine use_FL rfl ⟨p, _, rfl, by simp, by simp, hp8, fun g9 d hp9 hk9 hd => ?_⟩
  have hkk : Kept g g9 p := ((hk.trans (Kept.new hs1)).trans (Kept.new hs2)).trans hk9
  have hc : isClient (.int (1 + i)) = true := by simp only [isClient, isBtw, Bool.and_eq_true, decide_eq_true_eq]; omega
  have hj : isNumber (.int (1 + j)) = true := by simp only [isNumber, decide_eq_true_eq]; omega
  have hx : isCount (.int x) = true := by simp only [isCount, decide_eq_true_eq]; omega
  have hy : isCount (.int y) = true := by simp only [isCount, decide_eq_true_eq]; omega
  have fi : ∀ z : Int, 0 ≤ z → z ≤ 1000 → fit (.int z) = true := fun z h h' => fit_int.mpr ⟨by omega, by omega⟩
  simp only [List.cons_append, List.nil_append, List.mem_cons, List.not_mem_nil, or_false] at hd
  rcases hd with rfl | rfl | rfl | rfl | rfl | rfl
  · exact hP g9 _ hp9 hkk (edit_put ht1) (fit_word (by decide +kernel) (by simp) (by simp [hf1])) (by simp [PyData.depth, PyData.depthAll])
  · exact hP g9 _ hp9 hkk (edit_splice hx hy ht2) (fit_word (by decide +kernel) (by simp) (by simp [hf2, fi x (by omega) (by omega), fi y (by omega) (by omega)])) (by simp [PyData.depth, PyData.depthAll])
  · exact hP g9 _ hp9 hkk edit_remove (fit_word (by decide +kernel) (by simp) (by simp)) (by simp [PyData.depth, PyData.depthAll])
  · exact hP g9 _ hp9 hkk (edit_take hn) (fit_word (by decide +kernel) (by simp) (by simp [hnf])) (by simp [PyData.depth, PyData.depthAll])
  · exact hP g9 _ hp9 hkk (edit_adopt hc hj) (fit_word (by decide +kernel) (by simp) (by simp [fi (1 + i) (by omega) (by omega), fi (1 + j) (by omega) (by omega)])) (by simp [PyData.depth, PyData.depthAll])
  · exact hP g9 _ hp9 hkk (edit_drop hc hj) (fit_word (by decide +kernel) (by simp) (by simp [fi (1 + i) (by omega) (by omega), fi (1 + j) (by omega) (by omega)])) (by simp [PyData.depth, PyData.depthAll])
theorem ok__law_did {f : Addr} {fd : FuncData} (F : Fun K "_law_did" "_law_did" s__law_did f fd)   (B : Blt mg) {f__law_draw : Addr} {fd__law_draw : FuncData} {ps__law_draw : List Str} (D__law_draw : L2.Def P w K mg base 1 "_law_draw" f__law_draw fd__law_draw ps__law_draw (SpF K F__law_draw)) {f__law_any : Addr} {fd__law_any : FuncData} {ps__law_any : List Str} (D__law_any : L2.Def P w K mg base 2 "_law_any" f__law_any fd__law_any ps__law_any (SpF K F__law_any)) {f__law_name : Addr} {fd__law_name : FuncData} {ps__law_name : List Str} (D__law_name : L2.Def P w K mg base 3 "_law_name" f__law_name fd__law_name ps__law_name (SpF K F__law_name)) {f__law_edit : Addr} {fd__law_edit : FuncData} {ps__law_edit : List Str} (D__law_edit : L2.Def P w K mg base 4 "_law_edit" f__law_edit fd__law_edit ps__law_edit (SpF K F__law_edit))  : FnOk P w K mg base CX0 5 f fd ["_law_pot_here", "_law_account_here"] (SpF K F__law_did) := by
  refine F.ok sc__law_did (fun vs H Q E h => ?_) (fun cdv A outer s H vs Q E hr h => ?_)
  · exact lenF h fun c g es P h => h.1
  obtain ⟨I, g, es, P, ok, r, hF, k⟩ := spFL h
  have nd := sc__law_did.nd
  have hu := hr.units
  have hu1 := hu_of hr
  refine ⟨_, (pss_cons (L2.ps_set (i := 2) nd rfl (by first | exact Or.inl rfl | exact Or.inr rfl | exact Or.inr (Or.inl rfl)) (pe_slice (sl_z (K := (sC K).K)) (pe_dget hu1 (pv 1) pe_str (fun _ _ => rfl)) (po_some (pe_dget hu1 (pv 1) pe_str (fun _ _ => rfl))) po_none))
      (pss_cons (L2.ps_set (i := 3) nd rfl (by first | exact Or.inl rfl | exact Or.inr rfl | exact Or.inr (Or.inl rfl)) (pe_call D__law_draw.ok (hr.mono (by first | decide | omega)) rfl D__law_draw.at_ D__law_draw.kp D__law_draw.bd .nil pass0 (pa_cons (pv 0) (pa_cons pe_int pa_nil))))
      (pss_cons (L2.ps_if (pt_cmpR (op_zeq (K := (sC K).K) hu) (pv 3) pe_int (nomark _)) (pss_cons (ps_dput hu1 (pv 1) pe_str (pe_op (op_zadd (K := (sC K).K)) (pe_dget hu1 (pv 1) pe_str (fun _ _ => rfl)) pe_int) rfl)
      (pss_one (L2.ps_ret (pe_tup (pa_cons pe_str pa_nil))))) pss_nil)
      (pss_cons (L2.ps_if (pt_cmpR (op_zeq (K := (sC K).K) hu) (pv 3) pe_int (nomark _)) (pss_one (L2.ps_ret (pe_tup (pa_cons pe_str (pa_cons (pe_op (op_zadd (K := (sC K).K)) (pe_callB (cr_max2' rfl) (by rfl) B.max_ (by decide +kernel) (pa_cons pe_int (pa_cons (pe_op (op_zadd (K := (sC K).K)) (pe_dget hu1 (pv 1) pe_str (fun _ _ => rfl)) (pe_call D__law_any.ok (hr.mono (by first | decide | omega)) rfl D__law_any.at_ D__law_any.kp D__law_any.bd .nil pass0 (pa_cons (pv 0) (pa_cons (pe_lst (pa_cons (pe_un un_neg pe_int) (pa_cons (pe_un un_neg pe_int) (pa_cons pe_int (pa_cons pe_int pa_nil))))) pa_nil)))) pa_nil))) (pe_op op_pow pe_int pe_int)) pa_nil))))) pss_nil)
      (pss_cons (L2.ps_if (PW.pt (pw_and (pt_cmpR (op_zlt (K := (sC K).K) hu) (pv 3) pe_int (nomark _)) (pw_and1 (pt_cmpR (op_zne (K := (sC K).K) hu) (pv 2) (pe_lst pa_nil) (nomark _))))) (pss_cons (ps_dput hu1 (pv 1) pe_str (pe_op (op_zadd (K := (sC K).K)) (pe_dget hu1 (pv 1) pe_str (fun _ _ => rfl)) pe_int) rfl)
      (pss_one (L2.ps_ret (pe_tup (pa_cons pe_str (pa_cons (pe_ix (ix_z (K := (sC K).K) (w := w)) (pe_ix (ix_z (K := (sC K).K) (w := w)) (pv 2) pe_int (fun _ _ => rfl)) pe_int (fun _ _ => rfl)) pa_nil)))))) pss_nil)
      (pss_cons (L2.ps_if (PW.pt (pw_and (pt_cmpR (op_zeq (K := (sC K).K) hu) (pv 3) pe_int (nomark _)) (pw_and1 (pt_cmpR op_gt (pe_callB (cr_len (K := (sC K).K)) (by rfl) B.len_ PySem.boot_len (pa_cons (pv 2) pa_nil)) pe_int (nomark _))))) (pss_one (L2.ps_ret (pe_tup (pa_cons pe_str (pa_cons (pe_ix (ix_z (K := (sC K).K) (w := w)) (pe_ix (ix_z (K := (sC K).K) (w := w)) (pv 2) (pe_un un_neg pe_int) (fun _ _ => rfl)) pe_int (fun _ _ => rfl)) pa_nil))))) pss_nil)
      (pss_cons (L2.ps_set (i := 4) nd rfl (by first | exact Or.inl rfl | exact Or.inr rfl | exact Or.inr (Or.inl rfl)) (pe_call D__law_any.ok (hr.mono (by first | decide | omega)) rfl D__law_any.at_ D__law_any.kp D__law_any.bd .nil pass0 (pa_cons (pv 0) (pa_cons (pe_lst (pa_cons pe_non (pa_cons (pe_tup (pa_cons pe_int (pa_cons pe_int (pa_cons pe_int pa_nil)))) (pa_cons (pe_tup (pa_cons (pe_op (op_zadd (K := (sC K).K)) pe_int (pe_call D__law_draw.ok (hr.mono (by first | decide | omega)) rfl D__law_draw.at_ D__law_draw.kp D__law_draw.bd .nil pass0 (pa_cons (pv 0) (pa_cons pe_int pa_nil)))) (pa_cons (pe_op (op_zadd (K := (sC K).K)) pe_int (pe_call D__law_draw.ok (hr.mono (by first | decide | omega)) rfl D__law_draw.at_ D__law_draw.kp D__law_draw.bd .nil pass0 (pa_cons (pv 0) (pa_cons pe_int pa_nil)))) (pa_cons (pe_op (op_zadd (K := (sC K).K)) pe_int (pe_call D__law_draw.ok (hr.mono (by first | decide | omega)) rfl D__law_draw.at_ D__law_draw.kp D__law_draw.bd .nil pass0 (pa_cons (pv 0) (pa_cons pe_int pa_nil)))) pa_nil)))) pa_nil)))) pa_nil))))
      (pss_cons (L2.ps_set (i := 5) nd rfl (by first | exact Or.inl rfl | exact Or.inr rfl | exact Or.inr (Or.inl rfl)) (pe_tup (pa_cons pe_str (pa_cons (pe_call D__law_name.ok (hr.mono (by first | decide | omega)) rfl D__law_name.at_ D__law_name.kp D__law_name.bd .nil pass0 (pa_cons (pv 0) pa_nil)) (pa_cons (pv 4) (pa_cons (pe_call D__law_edit.ok (hr.mono (by first | decide | omega)) rfl D__law_edit.at_ D__law_edit.kp D__law_edit.bd .nil pass0 (pa_cons (pv 0) pa_nil)) pa_nil))))))
      (pss_cons (ps_dput hu1 (pv 1) pe_str (pe_op (op_zadd (K := (sC K).K)) (pe_dget hu1 (pv 1) pe_str (fun _ _ => rfl)) pe_int) rfl)
      (pss_cons (L2.ps_expr (pe_bm PySem.F.plainAttrs_list PySem.F.slot_list_append PySem.F.type_list_append mt_append (pe_dget hu1 (pv 1) pe_str (fun _ _ => rfl)) (pa_cons (pe_op (op_zadd (K := (sC K).K)) (pe_tup (pa_cons (pe_dget hu1 (pv 1) pe_str (fun _ _ => rfl)) pa_nil)) (pe_slice (sl_z (K := (sC K).K)) (pv 5) (po_some pe_int) po_none)) pa_nil)))
      (pss_one (L2.ps_ret (pv 5))))))))))))), body_run ok r k ?_⟩
  obtain ⟨q, a, wr, m, b, n, p, ws, k0, rfl, hp, na, nw, hA, hm, hPe, hb0, hb1, hn1, hP⟩ := hF
  refine Dl.ps_seq (Dl.ps_set ?_)
  walk_at "ds"
  refine ⟨_, _, _, _, rfl, rfl, hA.ga, rfl, ?_⟩
  walk_at "ds"
  refine ⟨_, _, _, _, rfl, rfl, hA.ga, rfl, ?_⟩
  walk_at "ds"
  refine os_mut hA.gw ?_
  rw [cut_drop, hA.dr]
  walk_at "ds"
  refine use_FL rfl ⟨q, _, rfl, by decide, by decide, hp, fun g1 way hp1 hk1 hw0 hw1 => ?_⟩
  walk_at "ds"
  have hA1 := hA.kept hk1 na nw
  refine ite_b (fun hw => ?_) (fun hw => ?_)
  · walk_at "ds"
    refine Dl.ps_dput ?_
    walk_at "ds"
    refine ⟨_, _, _, _, rfl, rfl, hA1.ga, rfl, ?_⟩
    walk_at "ds"
    refine ⟨_, _, _, rfl, rfl, hA1.ga, by show 4 < sizeLine; exact lt_line (by decide), ?_⟩
    walk_at "ds"
    exact hP _ _ (b + 1) n p ws k0 (hp1.kept Kept.put na.symm) hA1.toBoot note_boot (fit_word (by decide +kernel) (by simp) (by simp)) noted_boot hPe (by omega) (Int.le_refl _) (by omega)
  have hw := of_decide_eq_false hw
  walk_at "ds"
  have hn0 := hPe.pos
  have hpl : p.length ≤ 900000 := by
    have e := congrArg List.length hA.dr
    have h2 := hA.sz
    rw [List.length_drop] at e
    omega
  refine ite_b (fun hw2 => ?_) (fun hw2 => ?_)
  · walk_at "ds"
    refine ⟨_, _, _, _, rfl, rfl, hA1.ga, rfl, ?_⟩
    walk_at "ds"
    refine pv_lst2 ?_
    walk_at "ds"
    refine use_FL rfl ⟨q, _, rfl, by simp, by simp, hp1, fun g2 d hp2 hk2 hd => ?_⟩
    obtain ⟨i, rfl, h0, h1⟩ : ∃ i, d = .int i ∧ -3 ≤ i ∧ i ≤ 2 := by
      simp only [List.mem_cons, List.not_mem_nil, or_false] at hd
      rcases hd with rfl | rfl | rfl | rfl <;> exact ⟨_, rfl, by decide, by decide⟩
    walk_at "ds"
    refine oc_max2 ?_
    walk_at "ds"
    refine o_iic ⟨by decide, by decide, by decide⟩ ?_
    walk_at "ds"
    have e6 : (10 : Int) ^ (6 : Int).toNat = 1000000 := by decide
    rw [e6]
    obtain ⟨N, hN, e, h2, h3⟩ : ∃ N : Int, (if n + i > 1 then n + i else 1) + 1000000 = N ∧ N > n ∧ 1 ≤ N ∧ N ≤ 2 ^ 60 := ⟨_, rfl, by split <;> omega, by split <;> omega, by split <;> omega⟩
    rw [hN]
    have hA2 := hA1.kept hk2 na nw
    refine hP _ _ b n p ws k0 hp2 ⟨hA2.ga, hA2.gw, hA2.dr, hA2.le, Nat.le_succ_of_le hA2.sz, hA2.ne⟩ (note_settled (decide_eq_true h2)) (fit_word (by decide +kernel) (by simp) fun x hx => ?_) ?_ hPe hb0 (by omega) (by omega)
    · simp only [List.mem_cons, List.not_mem_nil, or_false] at hx
      subst hx
      exact fit_int.mpr ⟨by omega, by omega⟩
    · rw [noted_settled, hPe.not_settles (fun x xs e2 e3 => by omega), if_neg Bool.false_ne_true]
  have hw2 := of_decide_eq_false hw2
  refine Dl.ps_next ?_
  refine ps_cut (fun r2 g2 => r2 = [some (.r (.ref q)), some (.r (.ref a)), some (.d (.list p)), some (.d (.int way)), none, none] ∧ g2 = g1) ?_ ?_
  · walk_at "ds"
    refine ite_b (fun hw3 => ?_) (fun hw3 => ?_)
    · walk_at "ds"
      refine pv_lst2 ?_
      walk_at "ds"
      refine o_ne (hPe.fitL (by omega) (by omega)) rfl hPe.depthL (by simp [PyData.depth, PyData.depthAll]) ?_
      rw [eqv_nil]
      cases p with
      | nil =>
        walk_at "ds"
        exact ⟨rfl, rfl⟩
      | cons x xs =>
        refine ⟨true, rfl, ite_t rfl ?_⟩
        walk_at "ds"
        refine Dl.ps_dput ?_
        walk_at "ds"
        refine ⟨_, _, _, _, rfl, rfl, hA1.ga, rfl, ?_⟩
        walk_at "ds"
        refine ⟨_, _, _, rfl, rfl, hA1.ga, by show 4 < sizeLine; exact lt_line (by decide), ?_⟩
        obtain ⟨nm, bs, ed, e, hrest⟩ := (hPe.row 0 x rfl).ex
        walk_at "ds"
        refine o_ixL at0 ?_
        rw [e]
        walk_at "ds"
        have e1 : n - ((x :: xs).length : Int) + 1 + ((0 : Nat) : Int) = n - (x :: xs).length + 1 := by simp
        rw [e1]
        refine hP _ _ b n xs ws (k0 + 1) (hp1.kept Kept.put na.symm) hA1.toGone (note_settled (decide_eq_true (by omega))) (fit_word (by decide +kernel) (by simp) fun y hy => ?_) ?_ hPe.tail hb0 (by omega) (by omega)
        · simp only [List.mem_cons, List.not_mem_nil, or_false] at hy
          subst hy
          exact fit_int.mpr ⟨by omega, by omega⟩
        · rw [noted_settled, hPe.settles, if_pos rfl]; rfl
    · walk_at "ds"
      exact ⟨rfl, rfl⟩
  · rintro r2 g2 ⟨rfl, rfl⟩
    refine ps_cut (fun r2 g3 => r2 = [some (.r (.ref q)), some (.r (.ref a)), some (.d (.list p)), some (.d (.int way)), none, none] ∧ g3 = g2) ?_ ?_
    · walk_at "ds"
      refine ite_b (fun hw3 => ?_) (fun hw3 => ?_)
      · walk_at "ds"
        refine ite_b (fun hw4 => ?_) (fun hw4 => ?_)
        · have hl := of_decide_eq_true hw4
          have hl2 : p.length - 1 < p.length := by omega
          obtain ⟨nm, bs, ed, e, hrest⟩ := (hPe.row (p.length - 1) _ (List.getElem?_eq_getElem hl2)).ex
          have e0 : atI p (-1) = some p[p.length - 1] := at_last (by omega)
          walk_at "ds"
          refine o_ixL e0 ?_
          rw [e]
          walk_at "ds"
          have e1 : n - (p.length : Int) + 1 + ((p.length - 1 : Nat) : Int) = n := by omega
          rw [e1]
          refine hP _ _ b n p ws k0 hp1 ⟨hA1.ga, hA1.gw, hA1.dr, hA1.le, Nat.le_succ_of_le hA1.sz, hA1.ne⟩ (note_settled (decide_eq_true (by omega))) (fit_word (by decide +kernel) (by simp) fun y hy => ?_) ?_ hPe hb0 (by omega) (by omega)
          · simp only [List.mem_cons, List.not_mem_nil, or_false] at hy
            subst hy
            exact fit_int.mpr ⟨by omega, by omega⟩
          · rw [noted_settled, hPe.not_settles (fun x xs e2 e3 => by omega), if_neg Bool.false_ne_true]
        · walk_at "ds"
          exact ⟨rfl, rfl⟩
      · walk_at "ds"
        exact ⟨rfl, rfl⟩
    · rintro r2 g3 ⟨rfl, rfl⟩
      walk_at "ds"
      refine pv_lst2 ?_
      walk_at "ds"
      refine use_FL rfl ⟨q, _, rfl, by decide, by decide, hp1, fun g4 x1 hp4 hk4 hx1 hx1' => ?_⟩
      walk_at "ds"
      refine use_FL rfl ⟨q, _, rfl, by decide, by decide, hp4, fun g5 x2 hp5 hk5 hx2 hx2' => ?_⟩
      walk_at "ds"
      refine use_FL rfl ⟨q, _, rfl, by decide, by decide, hp5, fun g6 x3 hp6 hk6 hx3 hx3' => ?_⟩
      walk_at "ds"
      refine use_FL rfl ⟨q, _, rfl, by simp, by simp, hp6, fun g7 bs hp7 hk7 hd => ?_⟩
      have hbs : isBase bs = true ∧ fit bs = true ∧ bs.depth ≤ 2 := by
        simp only [List.mem_cons, List.not_mem_nil, or_false] at hd
        rcases hd with rfl | rfl | rfl
        · exact ⟨rfl, rfl, by simp [PyData.depth]⟩
        · exact ⟨rfl, by decide +kernel, by simp [PyData.depth, PyData.depthAll]⟩
        · refine ⟨?_, ?_, by simp [PyData.depth, PyData.depthAll]⟩
          · simp only [isBase, isStamp, Bool.and_eq_true, Bool.or_eq_true, decide_eq_true_eq]; omega
          · rw [fit_tup]
            refine ⟨by simp, fun y hy => ?_⟩
            simp only [List.mem_cons, List.not_mem_nil, or_false] at hy
            rcases hy with rfl | rfl | rfl <;> exact fit_int.mpr ⟨by omega, by omega⟩
      walk_at "ds"
      refine use_FL rfl ⟨q, rfl, hp7, fun g8 nm hp8 hk8 hn hnf => ?_⟩
      walk_at "ds"
      refine use_FL rfl ⟨q, rfl, hp8, fun g9 ed hp9 hk9 he hef hed => ?_⟩
      have hA9 := (((((hA1.kept hk4 na nw).kept hk5 na nw).kept hk6 na nw).kept hk7 na nw).kept hk8 na nw).kept hk9 na nw
      walk_at "ds"
      refine Dl.ps_dput ?_
      walk_at "ds"
      refine ⟨_, _, _, _, rfl, rfl, hA9.ga, rfl, ?_⟩
      walk_at "ds"
      refine ⟨_, _, _, rfl, rfl, hA9.ga, by show 4 < sizeLine; exact lt_line (by decide), ?_⟩
      have hB := hA9.toFirst (n' := n + 1)
      have hpB := hp9.kept (Kept.put (o := .md (putA (accO wr b n (k0 : Nat)) (.inr "first") (.d (.int (n + 1)))))) na.symm
      generalize put g9 a (.md (putA (accO wr b n (k0 : Nat)) (.inr "first") (.d (.int (n + 1))))) = gB at hB hpB ⊢
      refine Dl.ps_seq (Dl.ps_drop (pv_append ?_))
      walk_at "ds"
      refine ⟨_, _, _, _, rfl, rfl, hB.ga, rfl, ?_⟩
      walk_at "ds"
      refine ⟨⟨_, hB.gw⟩, ?_⟩
      walk_at "ds"
      refine ⟨_, _, _, _, rfl, rfl, hB.ga, rfl, ?_⟩
      walk_at "ds"
      dsimp only
      rw [cut_tail]
      refine o_addT (le_line (by simp)) ?_
      walk_at "ds"
      refine ⟨_, _, rfl, hB.gw, lt_line (by have := hB.sz; rw [List.length_map]; omega), ?_⟩
      walk_at "ds"
      exact hP _ _ b (n + 1) _ _ k0 (hpB.kept Kept.put nw.symm) hB.toApp (note_write hn hbs.1 he) (fit_word (by decide +kernel) (by simp) (by simp [hnf, hbs.2.1, hef])) noted_write (hPe.snoc ⟨.str nm, bs, ed, rfl, hn, hbs.1, he, hnf, hbs.2.1, hef, by simp [PyData.depth], hbs.2.2, hed⟩) hb0 (by omega) (Int.le_refl _)
end Pr

set_option Elab.async false
set_option linter.all false
set_option autoImplicit false
set_option maxRecDepth 100000
set_option maxHeartbeats 4000000
namespace Pr
open PySem PySem.Spec PyProof.Rows L2 Dl
local macro_rules | `(tactic| walk_at "ds1") => `(tactic| first
  | (with_reducible refine ps_seq ?_)
  | (with_reducible refine ps_ret ?_)
  | (with_reducible refine ps_if ?_)
  | (with_reducible refine ps_set ?_)
  | (with_reducible refine ps_next ?_)
  | (with_reducible refine ps_drop ?_)
  | ((with_reducible refine' pv_var ?k1 ?_); (case k1 => rfl))
  | (with_reducible refine pv_int ?_)
  | (with_reducible refine pv_str ?_)
  | (with_reducible refine pv_bl ?_)
  | (with_reducible refine pv_non ?_)
  | (with_reducible refine pv_and ?_)
  | (with_reducible refine pv_or ?_)
  | (with_reducible refine pv_not ?_)
  | (with_reducible refine pv_if ?_)
  | (with_reducible refine pv_op ?_)
  | (with_reducible refine pv_un ?_)
  | (with_reducible refine pv_chain ?_)
  | (with_reducible refine pv_tup ?_)
  | (with_reducible refine pv_call ?_)
  | (with_reducible refine pv_allT ?_)
  | (with_reducible refine pv_allS ?_)
  | (with_reducible refine pv_allR ?_)
  | (with_reducible refine pv_lcT ?_)
  | (with_reducible refine pv_lcL ?_)
  | (with_reducible refine pv_lcTF ?_)
  | (with_reducible refine pv_listRg2 ?_)
  | (with_reducible refine pv_cb ?_)
  | (with_reducible refine pv_sl ?_)
  | (with_reducible refine pp_none ?_)
  | (with_reducible refine pp_some ?_)
  | (with_reducible refine pas_nil ?_)
  | (with_reducible refine pas_cons ?_)
  | (with_reducible refine pb_test' ?_)
  | (with_reducible refine pb_B ?_)
  | (with_reducible refine pb_and ?_)
  | (with_reducible refine pb_or ?_)
  | (with_reducible refine pb_not ?_)
  | (with_reducible refine oc_isi (isT_int _) ?_)
  | (with_reducible refine oc_isi (isT_bool _) ?_)
  | (with_reducible refine oc_isi (isT_str _) ?_)
  | (with_reducible refine oc_isi (isT_tuple _) ?_)
  | (with_reducible refine oc_isi (isT_list _) ?_)
  | (with_reducible refine oc_lenT ?_)
  | (with_reducible refine oc_lenL ?_)
  | (with_reducible refine oc_lenR ?_)
  | (with_reducible refine o_add ?_)
  | ((with_reducible refine' o_iic ?k1 ?_); (case k1 => first | (show (0 : Int) < _; first | decide | assumption | omega) | exact Or.inr ⟨by decide, by decide⟩ | exact Or.inl ⟨by decide, by decide⟩))
  | (with_reducible refine pv_dget ?_)
  | (with_reducible refine o_neg ?_)
  | (with_reducible refine oc_int ?_)
  | (with_reducible refine oc_abs ?_)
  | (with_reducible refine o_ii ?_)
  | (with_reducible refine o_ib ?_)
  | (with_reducible refine o_le ?_)
  | (with_reducible refine o_lt ?_)
  | (with_reducible refine o_eqI ?_)
  | (with_reducible refine o_neI ?_)
  | (with_reducible refine o_eqS ?_)
  | (with_reducible refine o_eqB ?_)
  | (with_reducible refine o_neB ?_)
  | ((with_reducible refine' pv_const ?k1 ?_); (case k1 => assumption))
  | (with_reducible refine pv_raw ?_)
  | ((with_reducible refine oc_lenS ?k1 ?_); (case k1 => assumption))
  | (with_reducible refine o_leS ?_)
  | (with_reducible refine o_inS ?_)
  | ((with_reducible refine' o_isN ?k1 ?_); (case k1 => rfl))
  | ((with_reducible refine' o_notN ?k1 ?_); (case k1 => rfl))
  | (with_reducible refine o_isntB ?_)
  | ((with_reducible refine' o_ixM ?k1 ?k2 ?_); (case k1 => first | assumption | exact put_same); (case k2 => first | exact at0 | exact at1 | exact atI_nat (j := 2) rfl | exact atI_nat (j := 3) rfl | exact atI_nat (j := 4) rfl))
  | (with_reducible refine ps_setix ?_)
  | (with_reducible refine os_lst ?_)
  | ((with_reducible refine' o_ixT ?k1 ?_); (case k1 => first | exact at0 | exact at1 | rfl))
  | (with_reducible refine os_tup ?_)
  | ((with_reducible refine ite_t ?k1 ?_); (case k1 => rfl))
  | ((with_reducible refine ite_f ?k1 ?_); (case k1 => rfl))
  | ((with_reducible refine use_FJ ?k1 ?_); (case k1 => first | rfl | assumption))
  | (with_reducible refine use_is_between ?_)
  | (with_reducible refine use_is_tuple_of ?_)
  | (refine Or.inl (Exists.intro _ (And.intro rfl (And.intro (le_line (Nat.le_of_ble_eq_true rfl)) ?_))))
  | (refine Or.inr (Exists.intro _ (And.intro rfl (And.intro (le_line (Nat.le_of_ble_eq_true rfl)) ?_))))
  | (with_reducible refine Exists.intro _ (And.intro rfl ?_))
  | ((with_reducible refine And.intro ?k1 ?_); (case k1 => exact le_line (Nat.le_of_ble_eq_true rfl))))
local macro_rules | `(tactic| walk_at "ds") => `(tactic| repeat walk_at "ds1")

variable {P : Program} {w : World} {K : PySem.W.Frag} {mg : Str → Option Value} {base : Heap}
theorem ok_law {f : Addr} {fd : FuncData} (F : Fun K "law" "law" s_law f fd)   (B : Blt mg) {f__law_pot : Addr} {fd__law_pot : FuncData} {ps__law_pot : List Str} (D__law_pot : L2.Def P w K mg base 1 "_law_pot" f__law_pot fd__law_pot ps__law_pot (SpF K F__law_pot)) {f_bare_sheet : Addr} {fd_bare_sheet : FuncData} {ps_bare_sheet : List Str} (D_bare_sheet : L2.Def P w K mg base 1 "bare_sheet" f_bare_sheet fd_bare_sheet ps_bare_sheet (SpF K F_bare_sheet)) {f__law_account : Addr} {fd__law_account : FuncData} {ps__law_account : List Str} (D__law_account : L2.Def P w K mg base 1 "_law_account" f__law_account fd__law_account ps__law_account (SpF K F__law_account)) {f__law_draw : Addr} {fd__law_draw : FuncData} {ps__law_draw : List Str} (D__law_draw : L2.Def P w K mg base 1 "_law_draw" f__law_draw fd__law_draw ps__law_draw (SpF K F__law_draw)) {f__law_any : Addr} {fd__law_any : FuncData} {ps__law_any : List Str} (D__law_any : L2.Def P w K mg base 2 "_law_any" f__law_any fd__law_any ps__law_any (SpF K F__law_any)) {f_noted_behind : Addr} {fd_noted_behind : FuncData} {ps_noted_behind : List Str} (D_noted_behind : L2.Def P w K mg base 11 "noted_behind" f_noted_behind fd_noted_behind ps_noted_behind (SpF K F_noted_behind)) {f__law_did : Addr} {fd__law_did : FuncData} {ps__law_did : List Str} (D__law_did : L2.Def P w K mg base 5 "_law_did" f__law_did fd__law_did ps__law_did (SpF K F__law_did)) {f__law_is : Addr} {fd__law_is : FuncData} {ps__law_is : List Str} (D__law_is : L2.Def P w K mg base 7 "_law_is" f__law_is fd__law_is ps__law_is (SpF K (F__law_is 6))) {f__law_sheet_of : Addr} {fd__law_sheet_of : FuncData} {ps__law_sheet_of : List Str} (D__law_sheet_of : L2.Def P w K mg base 1 "_law_sheet_of" f__law_sheet_of fd__law_sheet_of ps__law_sheet_of (SpF K F__law_sheet_of)) {f_is_sheet : Addr} {fd_is_sheet : FuncData} {ps_is_sheet : List Str} (D_is_sheet : L2.Def P w K mg base 8 "is_sheet" f_is_sheet fd_is_sheet ps_is_sheet (SpF K (FJ fit isSheet)))  : FnOk P w K mg base CX0 12 f fd ["_law_script"] (SpF K F_law) := by
  refine F.ok sc_law (fun vs H Q E h => ?_) (fun cdv A outer s H vs Q E hr h => ?_)
  · exact lenF h fun c g es P h => h.1
  obtain ⟨I, g, es, P, ok, r, hF, k⟩ := spFL h
  have nd := sc_law.nd
  have hu := hr.units
  have hu1 := hu_of hr
  refine ⟨_, (pss_cons (L2.ps_set (i := 1) nd rfl (by first | exact Or.inl rfl | exact Or.inr rfl | exact Or.inr (Or.inl rfl)) (pe_call D__law_pot.ok (hr.mono (by first | decide | omega)) rfl D__law_pot.at_ D__law_pot.kp D__law_pot.bd .nil pass0 (pa_cons (pv 0) pa_nil)))
      (pss_cons (L2.ps_set (i := 2) nd rfl (by first | exact Or.inl rfl | exact Or.inr rfl | exact Or.inr (Or.inl rfl)) (pe_call0 D_bare_sheet.ok (hr.mono (by first | decide | omega)) rfl D_bare_sheet.at_ D_bare_sheet.kp D_bare_sheet.bd .nil pass0))
      (pss_cons (L2.ps_set (i := 3) nd rfl (by first | exact Or.inl rfl | exact Or.inr rfl | exact Or.inr (Or.inl rfl)) (pe_call D__law_account.ok (hr.mono (by first | decide | omega)) rfl D__law_account.at_ D__law_account.kp D__law_account.bd .nil pass0 (pa_cons (pv 2) pa_nil)))
      (pss_cons (L2.ps_for PassesOwn.never rfl (pi_range1 rfl B.range_ (pa_cons (pe_op (op_zadd (K := (sC K).K)) pe_int (pe_call D__law_draw.ok (hr.mono (by first | decide | omega)) rfl D__law_draw.at_ D__law_draw.kp D__law_draw.bd .nil pass0 (pa_cons (pv 1) (pa_cons (pe_call D__law_any.ok (hr.mono (by first | decide | omega)) rfl D__law_any.at_ D__law_any.kp D__law_any.bd .nil pass0 (pa_cons (pv 1) (pa_cons (pe_lst (pa_cons pe_int (pa_cons pe_int (pa_cons pe_int pa_nil)))) pa_nil))) pa_nil)))) pa_nil)) (pg_name (i := 4) nd rfl (Or.inl rfl)) (pss_cons (L2.ps_if (pt_cmpR (op_zeq (K := (sC K).K) hu) (pe_call D__law_draw.ok (hr.mono (by first | decide | omega)) rfl D__law_draw.at_ D__law_draw.kp D__law_draw.bd .nil pass0 (pa_cons (pv 1) (pa_cons pe_int pa_nil))) pe_int (nomark _)) (pss_cons (L2.ps_set (i := 5) nd rfl (by first | exact Or.inl rfl | exact Or.inr rfl | exact Or.inr (Or.inl rfl)) (pe_call D__law_draw.ok (hr.mono (by first | decide | omega)) rfl D__law_draw.at_ D__law_draw.kp D__law_draw.bd .nil pass0 (pa_cons (pv 1) (pa_cons (pe_op op_pow pe_int pe_int) pa_nil))))
      (pss_cons (L2.ps_set (i := 6) nd rfl (by first | exact Or.inl rfl | exact Or.inr rfl | exact Or.inr (Or.inl rfl)) (pe_tup (pa_cons (pe_call D__law_draw.ok (hr.mono (by first | decide | omega)) rfl D__law_draw.at_ D__law_draw.kp D__law_draw.bd .nil pass0 (pa_cons (pv 1) (pa_cons pe_int pa_nil))) (pa_cons (pe_op (op_zadd (K := (sC K).K)) (pv 5) pe_int) (pa_cons (pe_tup (pa_cons (pe_tup (pa_cons (pe_op (op_zadd (K := (sC K).K)) (pv 5) pe_int) (pa_cons pe_str (pa_cons pe_non (pa_cons (pe_tup (pa_cons pe_str (pa_cons pe_str pa_nil))) pa_nil))))) pa_nil)) pa_nil)))))
      (pss_one (ps_par (i := 2) (j := 3) rfl nd rfl rfl (by decide) rfl rfl (pa_cons (pe_call D_noted_behind.ok (hr.mono (by first | decide | omega)) rfl D_noted_behind.at_ D_noted_behind.kp D_noted_behind.bd .nil pass0 (pa_cons (pv 2) (pa_cons (pe_tup (pa_cons pe_str (pa_cons (pv 6) pa_nil))) pa_nil))) (pa_cons (pe_call D__law_account.ok (hr.mono (by first | decide | omega)) rfl D__law_account.at_ D__law_account.kp D__law_account.bd .nil pass0 (pa_cons (pv 6) pa_nil)) pa_nil)) (by rfl))))) pss_nil)
      (pss_cons (L2.ps_set (i := 2) nd rfl (by first | exact Or.inl rfl | exact Or.inr rfl | exact Or.inr (Or.inl rfl)) (pe_call D_noted_behind.ok (hr.mono (by first | decide | omega)) rfl D_noted_behind.at_ D_noted_behind.kp D_noted_behind.bd .nil pass0 (pa_cons (pv 2) (pa_cons (pe_call D__law_did.ok (hr.mono (by first | decide | omega)) rfl D__law_did.at_ D__law_did.kp D__law_did.bd .nil pass0 (pa_cons (pv 1) (pa_cons (pv 3) pa_nil))) pa_nil))))
      (pss_one (L2.ps_if (PW.pt (pw_or (pt_not (pt_val (pe_call D__law_is.ok (hr.mono (by first | decide | omega)) rfl D__law_is.at_ D__law_is.kp D__law_is.bd .nil pass0 (pa_cons (pv 2) (pa_cons (pe_call D__law_sheet_of.ok (hr.mono (by first | decide | omega)) rfl D__law_sheet_of.at_ D__law_sheet_of.kp D__law_sheet_of.bd .nil pass0 (pa_cons (pv 3) pa_nil)) pa_nil))))) (pw_or1 (pt_cmpR op_notBl (pe_call D_is_sheet.ok (hr.mono (by first | decide | omega)) rfl D_is_sheet.at_ D_is_sheet.kp D_is_sheet.bd .nil pass0 (pa_cons (pv 2) pa_nil)) pe_bl (nomark _))))) (pss_one (L2.ps_ret pe_bl)) pss_nil)))))
      (pss_one (L2.ps_ret pe_bl)))))), body_run ok r k ?_⟩
  obtain ⟨ns, rfl, hl, hP⟩ := hF
  walk_at "ds"
  refine use_FL rfl ⟨ns, rfl, hl, fun q g1 hq hp1 hk1 => ?_⟩
  walk_at "ds"
  refine ⟨rfl, rfl, ?_⟩
  walk_at "ds"
  refine use_FL rfl ⟨0, 0, [], rfl, fun a wr g2 ha hw hA hkk => ?_⟩
  have na : a ≠ q := fun e => hp1.there (by rw [← e]; exact ha)
  have nw : wr ≠ q := fun e => hp1.there (by rw [← e]; exact hw)
  have hp2 : PotIs g2 q := by
    have := hp1
    unfold PotIs at this ⊢
    rw [hkk q na.symm nw.symm]; exact this
  refine Dl.ps_seq (Dl.ps_for (pit_rng1 ?_))
  walk_at "ds"
  refine pv_lst2 ?_
  walk_at "ds"
  refine use_FL rfl ⟨q, _, rfl, by simp, by simp, hp2, fun g3 d hp3 hk3 hd => ?_⟩
  obtain ⟨T, rfl, hT0, hT1⟩ : ∃ i, d = .int i ∧ 1 ≤ i ∧ i ≤ 120 := by
    simp only [List.mem_cons, List.not_mem_nil, or_false] at hd
    rcases hd with rfl | rfl | rfl <;> exact ⟨_, rfl, by decide, by decide⟩
  walk_at "ds"
  refine use_FL rfl ⟨q, _, rfl, by omega, by omega, hp3, fun g4 r hp4 hk4 hr0 hr1 => ?_⟩
  walk_at "ds"
  have hA4 := (hA.kept hk3 na nw).kept hk4 na nw
  refine ⟨by omega, by omega, fun i ρ2 g2 => LoopInv q (.d (.list (ns.map .int))) i ρ2 g2, ⟨a, wr, 0, 0, 0, [], [], 0, none, none, none, rfl, hp4, na, nw, hA4, Pend.nil (Int.le_refl 0), Nat.zero_le _, Int.le_refl 0, by omega, by omega⟩, ?_, ?_⟩
  · rintro i ρ2 g2 hi ⟨a, wr, m, b, n, p, ws, k, e4, e5, e6, rfl, hp, na, nw, hA, hPe, hm, hb0, hb1, hn1⟩
    have hi' : (i : Int) ≤ 130 := by omega
    refine ps_cut (fun r2 g3 => LoopInv q (.d (.list (ns.map .int))) i r2 g3) ?_ ?_
    · walk_at "ds"
      refine use_FL rfl ⟨q, _, rfl, by decide, by decide, hp, fun g3 x hp3 hk3 hx0 hx1 => ?_⟩
      walk_at "ds"
      have hA3 := hA.kept hk3 na nw
      refine ite_b (fun hx => ?_) (fun hx => ?_)
      · walk_at "ds"
        refine o_iic ⟨by decide, by decide, by decide⟩ ?_
        walk_at "ds"
        have e9 : (10 : Int) ^ (9 : Int).toNat = 1000000000 := by decide
        rw [e9]
        refine use_FL rfl ⟨q, _, rfl, by decide, by decide, hp3, fun g4 N hp4 hk4 hN0 hN1 => ?_⟩
        walk_at "ds"
        refine use_FL rfl ⟨q, _, rfl, by decide, by decide, hp4, fun g5 B hp5 hk5 hB0 hB1 => ?_⟩
        have hA5 := (hA3.kept hk4 na nw).kept hk5 na nw
        have hS : Pend (N + 1) [.tuple [.int (N + 1), .str "a", .none, .tuple [.str "put", .str "x"]]] := (Pend.nil hN0).snoc ⟨_, _, _, rfl, by decide +kernel, rfl, edit_put (by decide +kernel), by decide +kernel, rfl, fit_word (by decide +kernel) (by simp) (fun y hy => by simp only [List.mem_cons, List.not_mem_nil, or_false] at hy; subst hy; decide +kernel), by simp [PyData.depth], by simp [PyData.depth], by simp [PyData.depth, PyData.depthAll]⟩
        have hS1 := hS.sheet (b := B) hB0
        have hS2 := hS.fit (b := B) hB0 (by omega) (by omega) (by simp)
        walk_at "ds"
        refine ps_par2 ?_
        walk_at "ds"
        refine ⟨rfl, sheetD b n p, .tuple [.str "stand", sheetD B (N + 1) [.tuple [.int (N + 1), .str "a", .none, .tuple [.str "put", .str "x"]]]], rfl, hPe.fit hb0 (by omega) (by omega) (by have := hA.dr; have e := congrArg List.length this; rw [List.length_drop] at e; have := hA.sz; omega), fit_word (by decide +kernel) (by simp) (fun y hy => by simp only [List.mem_cons, List.not_mem_nil, or_false] at hy; subst hy; exact hS2), hPe.sheet hb0, note_stand hS1, ?_⟩
        rw [noted_stand]
        walk_at "ds"
        refine use_FL rfl ⟨B, N + 1, _, rfl, fun a' wr' g6 ha' hw' hA' hkk' => ?_⟩
        walk_at "ds"
        have na' : a' ≠ q := fun e => hp5.there (by rw [← e]; exact ha')
        have nw' : wr' ≠ q := fun e => hp5.there (by rw [← e]; exact hw')
        have hp6 : PotIs g6 q := by
          have := hp5
          unfold PotIs at this ⊢
          rw [hkk' q na'.symm nw'.symm]; exact this
        exact ⟨_, _, rfl, a', wr', 1, B, N + 1, _, _, 0, _, _, _, rfl, hp6, na', nw', hA', hS, by omega, hB0, by omega, by omega⟩
      · walk_at "ds"
        exact ⟨a, wr, m, b, n, p, ws, k, _, _, _, rfl, hp3, na, nw, hA3, hPe, hm, hb0, hb1, hn1⟩
    · rintro r2 g3 ⟨a, wr, m, b, n, p, ws, k, e4, e5, e6, rfl, hp, na, nw, hA, hPe, hm, hb0, hb1, hn1⟩
      walk_at "ds"
      refine use_FL rfl ⟨q, a, wr, m, b, n, p, ws, k, rfl, hp, na, nw, hA, by omega, hPe, hb0, by omega, by omega, fun g4 d b' n' p' ws' k' hp4 hA4 hnote hfd hnoted hPe' hb0' hb1' hn1' => ?_⟩
      walk_at "ds"
      have hlen : p'.length ≤ 1000 := by
        have e := congrArg List.length hA4.dr
        rw [List.length_drop] at e
        have := hA4.sz
        omega
      have hfit := hPe'.fit hb0' (by omega) (by omega) (by omega)
      have hsh := hPe'.sheet hb0'
      refine ⟨rfl, sheetD b n p, d, rfl, hPe.fit hb0 (by omega) (by omega) (by have e := congrArg List.length hA.dr; rw [List.length_drop] at e; have := hA.sz; omega), hfd, hPe.sheet hb0, hnote, ?_⟩
      rw [hnoted]
      walk_at "ds"
      refine use_FL rfl ⟨a, wr, _, b', n', p', ws', k', rfl, hA4, ?_⟩
      walk_at "ds"
      refine ⟨rfl, _, rfl, hfit, Nat.lt_succ_of_le hPe'.depth, ?_⟩
      walk_at "ds"
      refine ite_f (by rw [hsh]; rfl) ?_
      walk_at "ds"
      exact ⟨a, wr, m + 1, b', n', p', ws', k', _, _, _, rfl, hp4, na, nw, hA4, hPe', by omega, hb0', by omega, by omega⟩
  · rintro ρ2 g2 -
    walk_at "ds"
    exact hP g2
end Pr

set_option Elab.async false
set_option linter.all false
set_option autoImplicit false
set_option maxRecDepth 100000
set_option maxHeartbeats 4000000
/-! What the top has written, as facts that can be looked up. -/
namespace Dl
open PySem PySem.Spec PyProof.Rows L2
structure IsDef (K : PySem.W.Frag) (x : Str) (st : Stmt) (f : Addr) : Prop where
  a : PySem.W.nsIn K mainGlobals x = some (some (.ref f))
  k : PySem.W.keepIn K (.ref f) = true
  ex : ∃ (oc : Value) (od an : Option Addr) (osl : Array (Option Value)) (kV doc pm cdv ct : Value), K.lookup f = some ⟨oc, od, .func (PySem.W.fnOf x x (defArgs st) (defBody st) (defScope st) .none kV doc pm an cdv ct), osl⟩ ∧ PySem.W.codeIn K cdv x = true
theorem isDef_mk {K : PySem.W.Frag} {x : Str} {st : Stmt} {f : Addr} {oc : Value} {od an : Option Addr} {osl : Array (Option Value)} {kV doc pm cdv ct : Value} (a : PySem.W.nsIn K mainGlobals x = some (some (.ref f)))
    (l : K.lookup f = some ⟨oc, od, .func (PySem.W.fnOf x x (defArgs st) (defBody st) (defScope st) .none kV doc pm an cdv ct), osl⟩) (c : PySem.W.codeIn K cdv x = true) (k : PySem.W.keepIn K (.ref f) = true) : IsDef K x st f := ⟨a, k, oc, od, an, osl, kV, doc, pm, cdv, ct, l, c⟩
theorem IsDef.def {K : PySem.W.Frag} {x : Str} {st : Stmt} {f : Addr} (I : IsDef K x st f) : ∃ fd, Fun K x x st f fd := by
  obtain ⟨a, k, oc, od, an, osl, kV, doc, pm, cdv, ct, l, c⟩ := I
  exact ⟨_, fun_mk l c k⟩
theorem IsDef.ne {K : PySem.W.Frag} {x y : Str} {st su : Stmt} {f g : Addr} (I : IsDef K x st f) (J : IsDef K y su g) (h : x ≠ y) : f ≠ g := by
  obtain ⟨a, k, oc, od, an, osl, kV, doc, pm, cdv, ct, l, c⟩ := I
  obtain ⟨a', k', oc', od', an', osl', kV', doc', pm', cdv', ct', l', c'⟩ := J
  intro e
  subst e
  rw [l] at l'
  injection l' with l1
  injection l1 with _ _ l2 _
  injection l2 with l3
  exact h (congrArg FuncData.name l3)
def IsTup (K : PySem.W.Frag) (a : Addr) (its : List Value) : Prop := ∃ od n sl, K.lookup a = some ⟨.type "tuple", od, .seq its.toArray n, sl⟩
theorem isTup_mk {K : PySem.W.Frag} {a : Addr} {its : List Value} {od : Option Addr} {n : Nat} {sl : Array (Option Value)} (l : K.lookup a = some ⟨.type "tuple", od, .seq its.toArray n, sl⟩) : IsTup K a its := ⟨od, n, sl, l⟩
theorem IsTup.sq {K : PySem.W.Frag} {a : Addr} {its : List Value} (h : IsTup K a its) {xs : List V} (hz : its.length ≤ 1000) (v : Vals xs its) (H : Hp) : SqT K H a xs := by
  obtain ⟨od, n, sl, l⟩ := h
  exact .inr ⟨_, its.toArray, n, l, rfl, rfl, by simpa using le_line (by omega), by simpa using v⟩
def keysAre : List DictEntry → List Str → Prop
  | [], [] => True
  | e :: r, k :: ks => (∃ t, e.key = .str k t) ∧ keysAre r ks
  | _, _ => False
theorem keysAre_mem : ∀ {es : List DictEntry} {ks : List Str}, keysAre es ks → ∀ e ∈ es, ∃ x t, e.key = .str x t ∧ x ∈ ks
  | [], [], _, e, h => by cases h
  | e :: r, k :: ks, h, e', m => by
    rcases List.mem_cons.mp m with rfl | m
    · obtain ⟨t, q⟩ := h.1
      exact ⟨k, t, q, List.mem_cons_self⟩
    · obtain ⟨x, t, q, hx⟩ := keysAre_mem h.2 e' m
      exact ⟨x, t, q, List.mem_cons_of_mem _ hx⟩
structure IsTab (K : PySem.W.Frag) (w : World) (a : Addr) (ks : List Str) (es : Array DictEntry) (n : Nat) : Prop where
  d : KDict K w a es n
  keys : keysAre es.toList ks
theorem IsTab.no {K : PySem.W.Frag} {w : World} {a : Addr} {ks : List Str} {es : Array DictEntry} {n : Nat} (h : IsTab K w a ks es n) {z : Str} (hz : z ∉ ks) : PySem.W.nsIn K a z = some none := by
  unfold PySem.W.nsIn
  rw [h.d.at_]
  have hm := keysAre_mem h.keys
  have e1 : es.toList.find? (fun e => e.key.isStr z) = none := by
    rw [List.find?_eq_none]
    intro e he q
    obtain ⟨x, t, hx, hk⟩ := hm e he
    rw [hx] at q
    have : x = z := by simpa [Value.isStr] using q
    exact hz (this ▸ hk)
  have e2 : es.toList.any (fun e => e.refKey) = false := by
    rw [List.any_eq_false]
    intro e he q
    obtain ⟨x, t, hx, hk⟩ := hm e he
    unfold DictEntry.refKey at q
    rw [hx] at q
    cases q
  show (match es.toList.find? (fun e => e.key.isStr z) with | some e => some (some e.val) | none => if es.toList.any (fun e => e.refKey) then none else some none) = some none
  rw [e1, e2]
  rfl
theorem IsTab.yes {K : PySem.W.Frag} {w : World} {a : Addr} {ks : List Str} {es : Array DictEntry} {n : Nat} (h : IsTab K w a ks es n) {z : Str} {t : Addr} (hz : PySem.W.nsIn K a z = some (some (.ref t))) : KDct K w a z (.ref t) := ⟨es, n, _, h.d.at_, h.d.lit, hz, rfl⟩
def tabOf (l : List (Addr × (PyData → Bool))) : Tab := fun a => (l.find? fun q => decide (q.1 = a)).map (·.2)
theorem tabOf_pos {f a : Addr} {p : PyData → Bool} {l : List (Addr × (PyData → Bool))} (e : f = a) : tabOf ((f, p) :: l) a = some p := by simp [tabOf, List.find?_cons, e]
theorem tabOf_neg {f a : Addr} {p : PyData → Bool} {l : List (Addr × (PyData → Bool))} (e : f ≠ a) : tabOf ((f, p) :: l) a = tabOf l a := by simp [tabOf, List.find?_cons, e]
theorem tabOf_mem {a : Addr} {p : PyData → Bool} : ∀ {l : List (Addr × (PyData → Bool))}, tabOf l a = some p → (a, p) ∈ l
  | [], h => by simp [tabOf] at h
  | (f, q) :: l, h => by
    by_cases e : f = a
    · rw [tabOf_pos e] at h
      cases h
      rw [e]; exact List.mem_cons_self
    · rw [tabOf_neg e] at h
      exact List.mem_cons_of_mem _ (tabOf_mem h)
section
variable {P : Program} {w : World} {K : PySem.W.Frag} {mg : Str → Option Value} {base : Heap}
theorem held_of {j k : Nat} {x : Str} {f : Addr} {fd : FuncData} {ps : List Str} {pre p : PyData → Bool} (D : L2.Def P w K mg base j x f fd ps (SpF K (FJ pre p))) (hjk : j ≤ k) (hp : ∀ d, fit d = true → pre d = true) : L2.Held P w K mg base k f (SpF K (FJ fit p)) :=
  ⟨fd, ps, (D.ok.mono hjk).imp fun vs H Q E ⟨c, I, g, es, P, e1, e2, e3, ⟨e4, d, e5, e6, e7⟩, e8⟩ => ⟨c, I, g, es, P, e1, e2, e3, ⟨e4, d, e5, hp d e6, e7⟩, e8⟩, D.kp, D.bd⟩
theorem hs_of {k : Nat} {l : List (Addr × (PyData → Bool))} (h : ∀ q ∈ l, L2.Held P w K mg base k q.1 (SpF K (FJ fit q.2))) : ∀ f sp, judgeS K (tabOf l) f = some sp → L2.Held P w K mg base k f sp := fun f sp e => by
  unfold judgeS at e
  cases q : tabOf l f with
  | none => rw [q] at e; cases e
  | some p =>
    rw [q] at e
    cases e
    exact h (f, p) (tabOf_mem q)
theorem def_of {k : Nat} {x : Str} {st : Stmt} {f : Addr} {fd : FuncData} {ps : List Str} {sp : Sp} {h : Heap} (I : IsDef K x st f) (X : K.In h) (G : h.Ns mainGlobals mg) (F : Fun K x x st f fd) (o : FnOk P w K mg base CX0 k f fd ps sp) (b : Binds K fd ps []) : L2.Def P w K mg base k x f fd ps sp :=
  ⟨o, PySem.W.mg_of X G I.a, I.k, b⟩
end
/-- the law's own promise -/
def spLaw (K : PySem.W.Frag) : Sp := fun vs H Q _ => ∃ (a : Addr) (ns : List Int), vs = [.ref a] ∧ SqL K H a (ns.map V.int) ∧ ns.length ≤ 63 ∧ ∀ H', Q (.bl true) H'
theorem spLaw_of {K : PySem.W.Frag} {vs : List V} {H : Hp} {Q : VK} {E : XK} (h : spLaw K vs H Q E) : SpF K F_law vs H Q E := by
  obtain ⟨a, ns, rfl, hS, hl, k⟩ := h
  refine ⟨sC K, H, fun _ => none, [.d (.list (ns.map .int))], fun e g => e = .d (.bool true), rfl, ⟨fun _ _ h => h, fun _ _ e => (by cases e), fun _ m => absurd rfl m⟩, .cons (Dp.lst hS (dpAll_ofInts ns)) .nil, use_FL rfl ⟨ns, rfl, hl, fun g' => rfl⟩, ?_⟩
  rintro v I' H' g' e s ok r rfl
  cases r
  exact k H'
end Dl

set_option Elab.async false
set_option linter.all false
set_option autoImplicit false
set_option maxRecDepth 100000
set_option maxHeartbeats 4000000
namespace Pr
open PySem PySem.Spec PyProof.Rows L2 Dl

theorem all_mk {l : PySem.W.OpenLaw} {w : World} {K : PySem.W.Frag} {h : Heap} {mg : Str → Option Value} {fa : Addr} (X : K.In h) (G : h.Ns mainGlobals mg) (hfa : mg "law" = some (.ref fa))
    {f_is_integer : Addr} (I_is_integer : IsDef K "is_integer" s_is_integer f_is_integer)
    {f_is_between : Addr} (I_is_between : IsDef K "is_between" s_is_between f_is_between)
    {f_is_count : Addr} (I_is_count : IsDef K "is_count" s_is_count f_is_count)
    {f_is_tuple_of : Addr} (I_is_tuple_of : IsDef K "is_tuple_of" s_is_tuple_of f_is_tuple_of)
    {f_are_ascending : Addr} (I_are_ascending : IsDef K "are_ascending" s_are_ascending f_are_ascending)
    {f_is_client : Addr} (I_is_client : IsDef K "is_client" s_is_client f_is_client)
    {f_is_number : Addr} (I_is_number : IsDef K "is_number" s_is_number f_is_number)
    {f_is_name : Addr} (I_is_name : IsDef K "is_name" s_is_name f_is_name)
    {f_is_text : Addr} (I_is_text : IsDef K "is_text" s_is_text f_is_text)
    {f_is_stamp : Addr} (I_is_stamp : IsDef K "is_stamp" s_is_stamp f_is_stamp)
    {f_is_base : Addr} (I_is_base : IsDef K "is_base" s_is_base f_is_base)
    {f_has_word : Addr} (I_has_word : IsDef K "has_word" s_has_word f_has_word)
    {f_are_all : Addr} (I_are_all : IsDef K "are_all" s_are_all f_are_all)
    {f_is_edit : Addr} (I_is_edit : IsDef K "is_edit" s_is_edit f_is_edit)
    {f_are_rows : Addr} (I_are_rows : IsDef K "are_rows" s_are_rows f_are_rows)
    {f_bare_sheet : Addr} (I_bare_sheet : IsDef K "bare_sheet" s_bare_sheet f_bare_sheet)
    {f_is_sheet : Addr} (I_is_sheet : IsDef K "is_sheet" s_is_sheet f_is_sheet)
    {f_check_sheet : Addr} (I_check_sheet : IsDef K "check_sheet" s_check_sheet f_check_sheet)
    {f_is_note : Addr} (I_is_note : IsDef K "is_note" s_is_note f_is_note)
    {f_raw_noted : Addr} (I_raw_noted : IsDef K "raw_noted" s_raw_noted f_raw_noted)
    {f_noted_behind : Addr} (I_noted_behind : IsDef K "noted_behind" s_noted_behind f_noted_behind)
    {f__law_pot : Addr} (I__law_pot : IsDef K "_law_pot" s__law_pot f__law_pot)
    {f__law_draw : Addr} (I__law_draw : IsDef K "_law_draw" s__law_draw f__law_draw)
    {f__law_any : Addr} (I__law_any : IsDef K "_law_any" s__law_any f__law_any)
    {f__law_signs : Addr} (I__law_signs : IsDef K "_law_signs" s__law_signs f__law_signs)
    {f__law_text : Addr} (I__law_text : IsDef K "_law_text" s__law_text f__law_text)
    {f__law_name : Addr} (I__law_name : IsDef K "_law_name" s__law_name f__law_name)
    {f__law_edit : Addr} (I__law_edit : IsDef K "_law_edit" s__law_edit f__law_edit)
    {f__law_account : Addr} (I__law_account : IsDef K "_law_account" s__law_account f__law_account)
    {f__law_sheet_of : Addr} (I__law_sheet_of : IsDef K "_law_sheet_of" s__law_sheet_of f__law_sheet_of)
    {f__law_did : Addr} (I__law_did : IsDef K "_law_did" s__law_did f__law_did)
    {f__law_is : Addr} (I__law_is : IsDef K "_law_is" s__law_is f__law_is)
    {f_law : Addr} (I_law : IsDef K "law" s_law f_law)
    {t_MOST_CLIENTS : Tok} (N_MOST_CLIENTS : PySem.W.nsIn K mainGlobals "MOST_CLIENTS" = some (some (.int 9 t_MOST_CLIENTS)))
    {t_MOST_IN_NAME : Tok} (N_MOST_IN_NAME : PySem.W.nsIn K mainGlobals "MOST_IN_NAME" = some (some (.int 8 t_MOST_IN_NAME)))
    {t_SIGNS : Tok} (N_SIGNS : PySem.W.nsIn K mainGlobals "SIGNS" = some (some (.str "abcdefghijklmnopqrstuvwxyz" t_SIGNS)))
    {t_MOST_IN_TEXT : Tok} (N_MOST_IN_TEXT : PySem.W.nsIn K mainGlobals "MOST_IN_TEXT" = some (some (.int 96 t_MOST_IN_TEXT)))
    {t_BOOT : Tok} (N_BOOT : PySem.W.nsIn K mainGlobals "BOOT" = some (some (.int 0 t_BOOT)))
    {t_NUMBER : Tok} (N_NUMBER : PySem.W.nsIn K mainGlobals "NUMBER" = some (some (.int 1 t_NUMBER)))
    {t_PENDING : Tok} (N_PENDING : PySem.W.nsIn K mainGlobals "PENDING" = some (some (.int 2 t_PENDING)))
    {a_FIRST_STAMP : Addr} (N_FIRST_STAMP : PySem.W.nsIn K mainGlobals "FIRST_STAMP" = some (some (.ref a_FIRST_STAMP)))
    {a_BARE_SHEET : Addr} (N_BARE_SHEET : PySem.W.nsIn K mainGlobals "BARE_SHEET" = some (some (.ref a_BARE_SHEET)))
    {a_EDITS : Addr} (N_EDITS : PySem.W.nsIn K mainGlobals "EDITS" = some (some (.ref a_EDITS)))
    {a_NOTES : Addr} (N_NOTES : PySem.W.nsIn K mainGlobals "NOTES" = some (some (.ref a_NOTES)))
    {t1 t2 t3 t4 t5 : Tok} {a_e : Addr} (U1 : IsTup K a_FIRST_STAMP [.int 0 t1, .int 0 t2, .int 0 t3]) (U2 : IsTup K a_BARE_SHEET [.int 0 t4, .int 0 t5, .ref a_e]) (U3 : IsTup K a_e [])
    {esE : Array DictEntry} {nE : Nat} (TE : IsTab K w a_EDITS ["put", "splice", "remove", "take", "adopt", "drop"] esE nE)
    {eE0 : Addr} (VE0 : PySem.W.nsIn K a_EDITS "put" = some (some (.ref eE0))) (WE0 : IsTup K eE0 [.ref f_is_text])
    {eE1 : Addr} (VE1 : PySem.W.nsIn K a_EDITS "splice" = some (some (.ref eE1))) (WE1 : IsTup K eE1 [.ref f_is_count, .ref f_is_count, .ref f_is_text])
    {eE2 : Addr} (VE2 : PySem.W.nsIn K a_EDITS "remove" = some (some (.ref eE2))) (WE2 : IsTup K eE2 [])
    {eE3 : Addr} (VE3 : PySem.W.nsIn K a_EDITS "take" = some (some (.ref eE3))) (WE3 : IsTup K eE3 [.ref f_is_name])
    {eE4 : Addr} (VE4 : PySem.W.nsIn K a_EDITS "adopt" = some (some (.ref eE4))) (WE4 : IsTup K eE4 [.ref f_is_client, .ref f_is_number])
    {eE5 : Addr} (VE5 : PySem.W.nsIn K a_EDITS "drop" = some (some (.ref eE5))) (WE5 : IsTup K eE5 [.ref f_is_client, .ref f_is_number])
    {esN : Array DictEntry} {nN : Nat} (TN : IsTab K w a_NOTES ["boot", "write", "settled", "stand"] esN nN)
    {eN0 : Addr} (VN0 : PySem.W.nsIn K a_NOTES "boot" = some (some (.ref eN0))) (WN0 : IsTup K eN0 [])
    {eN1 : Addr} (VN1 : PySem.W.nsIn K a_NOTES "write" = some (some (.ref eN1))) (WN1 : IsTup K eN1 [.ref f_is_name, .ref f_is_base, .ref f_is_edit])
    {eN2 : Addr} (VN2 : PySem.W.nsIn K a_NOTES "settled" = some (some (.ref eN2))) (WN2 : IsTup K eN2 [.ref f_is_number])
    {eN3 : Addr} (VN3 : PySem.W.nsIn K a_NOTES "stand" = some (some (.ref eN3))) (WN3 : IsTup K eN3 [.ref f_is_sheet])
    (z_isinstance : PySem.W.nsIn K mainGlobals "isinstance" = some none)
    (z_len : PySem.W.nsIn K mainGlobals "len" = some none)
    (z_all : PySem.W.nsIn K mainGlobals "all" = some none)
    (z_range : PySem.W.nsIn K mainGlobals "range" = some none)
    (z_zip : PySem.W.nsIn K mainGlobals "zip" = some none)
    (z_int : PySem.W.nsIn K mainGlobals "int" = some none)
    (z_str : PySem.W.nsIn K mainGlobals "str" = some none)
    (z_bool : PySem.W.nsIn K mainGlobals "bool" = some none)
    (z_tuple : PySem.W.nsIn K mainGlobals "tuple" = some none)
    (z_list : PySem.W.nsIn K mainGlobals "list" = some none)
    (z_abs : PySem.W.nsIn K mainGlobals "abs" = some none)
    (z_max : PySem.W.nsIn K mainGlobals "max" = some none)
    : ∃ fd : FuncData, (∀ (s : Shared) (v : Value), BindsTo s fd ⟨[v], []⟩ [("_law_script", v)]) ∧ ∀ base : Heap, K.In base → base.Ns mainGlobals mg → FnOk l.prog w K mg base CX0 12 fa fd ["_law_script"] (spLaw K) := by
  have e0 := hfa.symm.trans (PySem.W.mg_of X G I_law.a)
  cases e0
  have B : Blt mg := ⟨PySem.W.mg_none_of X G z_isinstance, PySem.W.mg_none_of X G z_len, PySem.W.mg_none_of X G z_all, PySem.W.mg_none_of X G z_range, PySem.W.mg_none_of X G z_zip, PySem.W.mg_none_of X G z_int, PySem.W.mg_none_of X G z_str, PySem.W.mg_none_of X G z_bool, PySem.W.mg_none_of X G z_tuple, PySem.W.mg_none_of X G z_list, PySem.W.mg_none_of X G z_abs, PySem.W.mg_none_of X G z_max⟩
  have C_MOST_CLIENTS := PySem.W.mg_of X G N_MOST_CLIENTS
  have C_MOST_IN_NAME := PySem.W.mg_of X G N_MOST_IN_NAME
  have C_SIGNS := PySem.W.mg_of X G N_SIGNS
  have C_MOST_IN_TEXT := PySem.W.mg_of X G N_MOST_IN_TEXT
  have C_BOOT := PySem.W.mg_of X G N_BOOT
  have C_NUMBER := PySem.W.mg_of X G N_NUMBER
  have C_PENDING := PySem.W.mg_of X G N_PENDING
  have C_FIRST_STAMP := PySem.W.mg_of X G N_FIRST_STAMP
  have C_BARE_SHEET := PySem.W.mg_of X G N_BARE_SHEET
  have C_EDITS := PySem.W.mg_of X G N_EDITS
  have C_NOTES := PySem.W.mg_of X G N_NOTES
  have Z_FIRST_STAMP : ∀ I, Dp K I (.ref a_FIRST_STAMP) (.tuple [.int 0, .int 0, .int 0]) := fun I => .tup (U1.sq (xs := [.int 0, .int 0, .int 0]) (by simp) (.cons ⟨_, rfl⟩ (.cons ⟨_, rfl⟩ (.cons ⟨_, rfl⟩ .nil))) I) (.cons (.int 0) (.cons (.int 0) (.cons (.int 0) .nil)))
  have Z_BARE_SHEET : ∀ I, Dp K I (.ref a_BARE_SHEET) (.tuple [.int 0, .int 0, .tuple []]) := fun I => .tup (U2.sq (xs := [.int 0, .int 0, .ref a_e]) (by simp) (.cons ⟨_, rfl⟩ (.cons ⟨_, rfl⟩ (.cons rfl .nil))) I) (.cons (.int 0) (.cons (.int 0) (.cons (.tup (U3.sq (xs := []) (by simp) .nil I) .nil) .nil)))
  have K_EDITS := TE.d
  have K_NOTES := TN.d
  obtain ⟨fd_is_integer, Q_is_integer⟩ := I_is_integer.def
  obtain ⟨fd_is_between, Q_is_between⟩ := I_is_between.def
  obtain ⟨fd_is_count, Q_is_count⟩ := I_is_count.def
  obtain ⟨fd_is_tuple_of, Q_is_tuple_of⟩ := I_is_tuple_of.def
  obtain ⟨fd_are_ascending, Q_are_ascending⟩ := I_are_ascending.def
  obtain ⟨fd_is_client, Q_is_client⟩ := I_is_client.def
  obtain ⟨fd_is_number, Q_is_number⟩ := I_is_number.def
  obtain ⟨fd_is_name, Q_is_name⟩ := I_is_name.def
  obtain ⟨fd_is_text, Q_is_text⟩ := I_is_text.def
  obtain ⟨fd_is_stamp, Q_is_stamp⟩ := I_is_stamp.def
  obtain ⟨fd_is_base, Q_is_base⟩ := I_is_base.def
  obtain ⟨fd_has_word, Q_has_word⟩ := I_has_word.def
  obtain ⟨fd_are_all, Q_are_all⟩ := I_are_all.def
  obtain ⟨fd_is_edit, Q_is_edit⟩ := I_is_edit.def
  obtain ⟨fd_are_rows, Q_are_rows⟩ := I_are_rows.def
  obtain ⟨fd_bare_sheet, Q_bare_sheet⟩ := I_bare_sheet.def
  obtain ⟨fd_is_sheet, Q_is_sheet⟩ := I_is_sheet.def
  obtain ⟨fd_check_sheet, Q_check_sheet⟩ := I_check_sheet.def
  obtain ⟨fd_is_note, Q_is_note⟩ := I_is_note.def
  obtain ⟨fd_raw_noted, Q_raw_noted⟩ := I_raw_noted.def
  obtain ⟨fd_noted_behind, Q_noted_behind⟩ := I_noted_behind.def
  obtain ⟨fd__law_pot, Q__law_pot⟩ := I__law_pot.def
  obtain ⟨fd__law_draw, Q__law_draw⟩ := I__law_draw.def
  obtain ⟨fd__law_any, Q__law_any⟩ := I__law_any.def
  obtain ⟨fd__law_signs, Q__law_signs⟩ := I__law_signs.def
  obtain ⟨fd__law_text, Q__law_text⟩ := I__law_text.def
  obtain ⟨fd__law_name, Q__law_name⟩ := I__law_name.def
  obtain ⟨fd__law_edit, Q__law_edit⟩ := I__law_edit.def
  obtain ⟨fd__law_account, Q__law_account⟩ := I__law_account.def
  obtain ⟨fd__law_sheet_of, Q__law_sheet_of⟩ := I__law_sheet_of.def
  obtain ⟨fd__law_did, Q__law_did⟩ := I__law_did.def
  obtain ⟨fd__law_is, Q__law_is⟩ := I__law_is.def
  obtain ⟨fd_law, Q_law⟩ := I_law.def
  let tabE : Tab := tabOf [(f_is_text, isText), (f_is_count, isCount), (f_is_name, isName), (f_is_client, isClient), (f_is_number, isNumber)]
  have tE_is_text : tabE f_is_text = some isText := tabOf_pos rfl
  have tE_is_count : tabE f_is_count = some isCount := (tabOf_neg (I_is_text.ne I_is_count (by decide +kernel))).trans (tabOf_pos rfl)
  have tE_is_name : tabE f_is_name = some isName := (tabOf_neg (I_is_text.ne I_is_name (by decide +kernel))).trans ((tabOf_neg (I_is_count.ne I_is_name (by decide +kernel))).trans (tabOf_pos rfl))
  have tE_is_client : tabE f_is_client = some isClient := (tabOf_neg (I_is_text.ne I_is_client (by decide +kernel))).trans ((tabOf_neg (I_is_count.ne I_is_client (by decide +kernel))).trans ((tabOf_neg (I_is_name.ne I_is_client (by decide +kernel))).trans (tabOf_pos rfl)))
  have tE_is_number : tabE f_is_number = some isNumber := (tabOf_neg (I_is_text.ne I_is_number (by decide +kernel))).trans ((tabOf_neg (I_is_count.ne I_is_number (by decide +kernel))).trans ((tabOf_neg (I_is_name.ne I_is_number (by decide +kernel))).trans ((tabOf_neg (I_is_client.ne I_is_number (by decide +kernel))).trans (tabOf_pos rfl))))
  let tabR : Tab := tabOf [(f_is_number, isNumber), (f_is_name, isName), (f_is_base, isBase), (f_is_edit, isEdit)]
  have tR_is_number : tabR f_is_number = some isNumber := tabOf_pos rfl
  have tR_is_name : tabR f_is_name = some isName := (tabOf_neg (I_is_number.ne I_is_name (by decide +kernel))).trans (tabOf_pos rfl)
  have tR_is_base : tabR f_is_base = some isBase := (tabOf_neg (I_is_number.ne I_is_base (by decide +kernel))).trans ((tabOf_neg (I_is_name.ne I_is_base (by decide +kernel))).trans (tabOf_pos rfl))
  have tR_is_edit : tabR f_is_edit = some isEdit := (tabOf_neg (I_is_number.ne I_is_edit (by decide +kernel))).trans ((tabOf_neg (I_is_name.ne I_is_edit (by decide +kernel))).trans ((tabOf_neg (I_is_base.ne I_is_edit (by decide +kernel))).trans (tabOf_pos rfl)))
  let tabN : Tab := tabOf [(f_is_name, isName), (f_is_base, isBase), (f_is_edit, isEdit), (f_is_number, isNumber), (f_is_sheet, isSheet)]
  have tN_is_name : tabN f_is_name = some isName := tabOf_pos rfl
  have tN_is_base : tabN f_is_base = some isBase := (tabOf_neg (I_is_name.ne I_is_base (by decide +kernel))).trans (tabOf_pos rfl)
  have tN_is_edit : tabN f_is_edit = some isEdit := (tabOf_neg (I_is_name.ne I_is_edit (by decide +kernel))).trans ((tabOf_neg (I_is_base.ne I_is_edit (by decide +kernel))).trans (tabOf_pos rfl))
  have tN_is_number : tabN f_is_number = some isNumber := (tabOf_neg (I_is_name.ne I_is_number (by decide +kernel))).trans ((tabOf_neg (I_is_base.ne I_is_number (by decide +kernel))).trans ((tabOf_neg (I_is_edit.ne I_is_number (by decide +kernel))).trans (tabOf_pos rfl)))
  have tN_is_sheet : tabN f_is_sheet = some isSheet := (tabOf_neg (I_is_name.ne I_is_sheet (by decide +kernel))).trans ((tabOf_neg (I_is_base.ne I_is_sheet (by decide +kernel))).trans ((tabOf_neg (I_is_edit.ne I_is_sheet (by decide +kernel))).trans ((tabOf_neg (I_is_number.ne I_is_sheet (by decide +kernel))).trans (tabOf_pos rfl))))
  have KE : TabK K w tabE a_EDITS editTests := by
    refine ⟨fun z hz => TE.no fun m => ?_, fun z ps hz => ?_⟩
    · simp only [List.mem_cons, List.not_mem_nil, or_false] at m
      rcases m with rfl | rfl | rfl | rfl | rfl | rfl
      · have q : (editTests "put").isSome = true := by rfl
        rw [hz] at q; cases q
      · have q : (editTests "splice").isSome = true := by rfl
        rw [hz] at q; cases q
      · have q : (editTests "remove").isSome = true := by rfl
        rw [hz] at q; cases q
      · have q : (editTests "take").isSome = true := by rfl
        rw [hz] at q; cases q
      · have q : (editTests "adopt").isSome = true := by rfl
        rw [hz] at q; cases q
      · have q : (editTests "drop").isSome = true := by rfl
        rw [hz] at q; cases q
    · simp only [editTests] at hz
      by_cases c0 : ("put" : Str) = z
      · subst c0
        have hz' : some [isText] = some ps := hz
        cases hz'
        exact ⟨eE0, [.ref f_is_text], VE0, TE.yes VE0, WE0.sq (by simp) (.cons rfl (.nil)), .cons ⟨_, rfl, tE_is_text⟩ (.nil)⟩
      rw [if_neg c0] at hz
      by_cases c1 : ("splice" : Str) = z
      · subst c1
        have hz' : some [isCount, isCount, isText] = some ps := hz
        cases hz'
        exact ⟨eE1, [.ref f_is_count, .ref f_is_count, .ref f_is_text], VE1, TE.yes VE1, WE1.sq (by simp) (.cons rfl (.cons rfl (.cons rfl (.nil)))), .cons ⟨_, rfl, tE_is_count⟩ (.cons ⟨_, rfl, tE_is_count⟩ (.cons ⟨_, rfl, tE_is_text⟩ (.nil)))⟩
      rw [if_neg c1] at hz
      by_cases c2 : ("remove" : Str) = z
      · subst c2
        have hz' : some [] = some ps := hz
        cases hz'
        exact ⟨eE2, [], VE2, TE.yes VE2, WE2.sq (by simp) (.nil), .nil⟩
      rw [if_neg c2] at hz
      by_cases c3 : ("take" : Str) = z
      · subst c3
        have hz' : some [isName] = some ps := hz
        cases hz'
        exact ⟨eE3, [.ref f_is_name], VE3, TE.yes VE3, WE3.sq (by simp) (.cons rfl (.nil)), .cons ⟨_, rfl, tE_is_name⟩ (.nil)⟩
      rw [if_neg c3] at hz
      by_cases c4 : ("adopt" : Str) = z
      · subst c4
        have hz' : some [isClient, isNumber] = some ps := hz
        cases hz'
        exact ⟨eE4, [.ref f_is_client, .ref f_is_number], VE4, TE.yes VE4, WE4.sq (by simp) (.cons rfl (.cons rfl (.nil))), .cons ⟨_, rfl, tE_is_client⟩ (.cons ⟨_, rfl, tE_is_number⟩ (.nil))⟩
      rw [if_neg c4] at hz
      by_cases c5 : ("drop" : Str) = z
      · subst c5
        have hz' : some [isClient, isNumber] = some ps := hz
        cases hz'
        exact ⟨eE5, [.ref f_is_client, .ref f_is_number], VE5, TE.yes VE5, WE5.sq (by simp) (.cons rfl (.cons rfl (.nil))), .cons ⟨_, rfl, tE_is_client⟩ (.cons ⟨_, rfl, tE_is_number⟩ (.nil))⟩
      rw [if_neg c5] at hz
      cases hz
  have KN : TabK K w tabN a_NOTES noteTests := by
    refine ⟨fun z hz => TN.no fun m => ?_, fun z ps hz => ?_⟩
    · simp only [List.mem_cons, List.not_mem_nil, or_false] at m
      rcases m with rfl | rfl | rfl | rfl
      · have q : (noteTests "boot").isSome = true := by rfl
        rw [hz] at q; cases q
      · have q : (noteTests "write").isSome = true := by rfl
        rw [hz] at q; cases q
      · have q : (noteTests "settled").isSome = true := by rfl
        rw [hz] at q; cases q
      · have q : (noteTests "stand").isSome = true := by rfl
        rw [hz] at q; cases q
    · simp only [noteTests] at hz
      by_cases c0 : ("boot" : Str) = z
      · subst c0
        have hz' : some [] = some ps := hz
        cases hz'
        exact ⟨eN0, [], VN0, TN.yes VN0, WN0.sq (by simp) (.nil), .nil⟩
      rw [if_neg c0] at hz
      by_cases c1 : ("write" : Str) = z
      · subst c1
        have hz' : some [isName, isBase, isEdit] = some ps := hz
        cases hz'
        exact ⟨eN1, [.ref f_is_name, .ref f_is_base, .ref f_is_edit], VN1, TN.yes VN1, WN1.sq (by simp) (.cons rfl (.cons rfl (.cons rfl (.nil)))), .cons ⟨_, rfl, tN_is_name⟩ (.cons ⟨_, rfl, tN_is_base⟩ (.cons ⟨_, rfl, tN_is_edit⟩ (.nil)))⟩
      rw [if_neg c1] at hz
      by_cases c2 : ("settled" : Str) = z
      · subst c2
        have hz' : some [isNumber] = some ps := hz
        cases hz'
        exact ⟨eN2, [.ref f_is_number], VN2, TN.yes VN2, WN2.sq (by simp) (.cons rfl (.nil)), .cons ⟨_, rfl, tN_is_number⟩ (.nil)⟩
      rw [if_neg c2] at hz
      by_cases c3 : ("stand" : Str) = z
      · subst c3
        have hz' : some [isSheet] = some ps := hz
        cases hz'
        exact ⟨eN3, [.ref f_is_sheet], VN3, TN.yes VN3, WN3.sq (by simp) (.cons rfl (.nil)), .cons ⟨_, rfl, tN_is_sheet⟩ (.nil)⟩
      rw [if_neg c3] at hz
      cases hz
  refine ⟨fd_law, fun s v => ?_, fun base _ _ => ?_⟩
  · obtain ⟨oc, od, kV, doc, pm, an, cdv, ct, osl, e, _, _⟩ := Q_law.ex
    subst e
    exact .of_eq rfl
  have D_is_integer : L2.Def l.prog w K mg base 1 "is_integer" f_is_integer fd_is_integer ["thing"] (SpF K F_is_integer) := def_of I_is_integer X G Q_is_integer (ok_is_integer Q_is_integer B) (Q_is_integer.binds (ps := ["thing"]) fun _ _ _ _ _ _ us hl => match us, hl with | [_], _ => rfl)
  have D_is_between : L2.Def l.prog w K mg base 2 "is_between" f_is_between fd_is_between ["thing", "least", "most"] (SpF K F_is_between) := def_of I_is_between X G Q_is_between (ok_is_between Q_is_between D_is_integer) (Q_is_between.binds (ps := ["thing", "least", "most"]) fun _ _ _ _ _ _ us hl => match us, hl with | [_, _, _], _ => rfl)
  have D_is_count : L2.Def l.prog w K mg base 2 "is_count" f_is_count fd_is_count ["thing"] (SpF K F_is_count) := def_of I_is_count X G Q_is_count (ok_is_count Q_is_count D_is_integer) (Q_is_count.binds (ps := ["thing"]) fun _ _ _ _ _ _ us hl => match us, hl with | [_], _ => rfl)
  have D_is_tuple_of : L2.Def l.prog w K mg base 1 "is_tuple_of" f_is_tuple_of fd_is_tuple_of ["thing", "many"] (SpF K F_is_tuple_of) := def_of I_is_tuple_of X G Q_is_tuple_of (ok_is_tuple_of Q_is_tuple_of B) (Q_is_tuple_of.binds (ps := ["thing", "many"]) fun _ _ _ _ _ _ us hl => match us, hl with | [_, _], _ => rfl)
  have D_are_ascending : L2.Def l.prog w K mg base 1 "are_ascending" f_are_ascending fd_are_ascending ["things"] (SpF K F_are_ascending) := def_of I_are_ascending X G Q_are_ascending (ok_are_ascending Q_are_ascending B) (Q_are_ascending.binds (ps := ["things"]) fun _ _ _ _ _ _ us hl => match us, hl with | [_], _ => rfl)
  have D_is_client : L2.Def l.prog w K mg base 3 "is_client" f_is_client fd_is_client ["thing"] (SpF K (FJ any' isClient)) := def_of I_is_client X G Q_is_client (ok_is_client Q_is_client C_MOST_CLIENTS D_is_between) (Q_is_client.binds (ps := ["thing"]) fun _ _ _ _ _ _ us hl => match us, hl with | [_], _ => rfl)
  have D_is_number : L2.Def l.prog w K mg base 2 "is_number" f_is_number fd_is_number ["thing"] (SpF K (FJ any' isNumber)) := def_of I_is_number X G Q_is_number (ok_is_number Q_is_number D_is_integer) (Q_is_number.binds (ps := ["thing"]) fun _ _ _ _ _ _ us hl => match us, hl with | [_], _ => rfl)
  have D_is_name : L2.Def l.prog w K mg base 1 "is_name" f_is_name fd_is_name ["thing"] (SpF K (FJ fit isName)) := def_of I_is_name X G Q_is_name (ok_is_name Q_is_name B C_MOST_IN_NAME C_SIGNS) (Q_is_name.binds (ps := ["thing"]) fun _ _ _ _ _ _ us hl => match us, hl with | [_], _ => rfl)
  have D_is_text : L2.Def l.prog w K mg base 1 "is_text" f_is_text fd_is_text ["thing"] (SpF K (FJ fit isText)) := def_of I_is_text X G Q_is_text (ok_is_text Q_is_text B C_MOST_IN_TEXT) (Q_is_text.binds (ps := ["thing"]) fun _ _ _ _ _ _ us hl => match us, hl with | [_], _ => rfl)
  have D_is_stamp : L2.Def l.prog w K mg base 4 "is_stamp" f_is_stamp fd_is_stamp ["thing"] (SpF K (FJ fit isStamp)) := def_of I_is_stamp X G Q_is_stamp (ok_is_stamp Q_is_stamp C_FIRST_STAMP Z_FIRST_STAMP B D_is_tuple_of D_is_count D_is_number D_is_client) (Q_is_stamp.binds (ps := ["thing"]) fun _ _ _ _ _ _ us hl => match us, hl with | [_], _ => rfl)
  have D_is_base : L2.Def l.prog w K mg base 5 "is_base" f_is_base fd_is_base ["thing"] (SpF K (FJ fit isBase)) := def_of I_is_base X G Q_is_base (ok_is_base Q_is_base D_is_stamp) (Q_is_base.binds (ps := ["thing"]) fun _ _ _ _ _ _ us hl => match us, hl with | [_], _ => rfl)
  have D_has_word : L2.Def l.prog w K mg base 1 "has_word" f_has_word fd_has_word ["thing"] (SpF K (FJ any' isWord)) := def_of I_has_word X G Q_has_word (ok_has_word Q_has_word B) (Q_has_word.binds (ps := ["thing"]) fun _ _ _ _ _ _ us hl => match us, hl with | [_], _ => rfl)
  have HSE : ∀ f sp, judgeS K tabE f = some sp → L2.Held l.prog w K mg base 3 f sp := hs_of fun q hq => by
    simp only [List.mem_cons, List.not_mem_nil, or_false] at hq
    rcases hq with rfl | rfl | rfl | rfl | rfl
    · exact held_of D_is_text (by decide) (fun _ h => h)
    · exact held_of D_is_count (by decide) (fun _ _ => rfl)
    · exact held_of D_is_name (by decide) (fun _ h => h)
    · exact held_of D_is_client (by decide) (fun _ _ => rfl)
    · exact held_of D_is_number (by decide) (fun _ _ => rfl)
  have D_are_allE : L2.Def l.prog w K mg base 4 "are_all" f_are_all fd_are_all ["things", "tests"] (SpF K (F_are_all tabE)) := def_of I_are_all X G Q_are_all (ok_are_all Q_are_all HSE B) (Q_are_all.binds (ps := ["things", "tests"]) fun _ _ _ _ _ _ us hl => match us, hl with | [_, _], _ => rfl)
  have D_is_edit : L2.Def l.prog w K mg base 5 "is_edit" f_is_edit fd_is_edit ["thing"] (SpF K (FJ fit isEdit)) := def_of I_is_edit X G Q_is_edit (ok_is_edit Q_is_edit C_EDITS K_EDITS KE D_has_word D_are_allE) (Q_is_edit.binds (ps := ["thing"]) fun _ _ _ _ _ _ us hl => match us, hl with | [_], _ => rfl)
  have HSR : ∀ f sp, judgeS K tabR f = some sp → L2.Held l.prog w K mg base 5 f sp := hs_of fun q hq => by
    simp only [List.mem_cons, List.not_mem_nil, or_false] at hq
    rcases hq with rfl | rfl | rfl | rfl
    · exact held_of D_is_number (by decide) (fun _ _ => rfl)
    · exact held_of D_is_name (by decide) (fun _ h => h)
    · exact held_of D_is_base (by decide) (fun _ h => h)
    · exact held_of D_is_edit (by decide) (fun _ h => h)
  have D_are_allR : L2.Def l.prog w K mg base 6 "are_all" f_are_all fd_are_all ["things", "tests"] (SpF K (F_are_all tabR)) := def_of I_are_all X G Q_are_all (ok_are_all Q_are_all HSR B) (Q_are_all.binds (ps := ["things", "tests"]) fun _ _ _ _ _ _ us hl => match us, hl with | [_, _], _ => rfl)
  have D_are_rows : L2.Def l.prog w K mg base 7 "are_rows" f_are_rows fd_are_rows ["thing", "tests", "size"] (SpF K (F_are_rows tabR)) := def_of I_are_rows X G Q_are_rows (ok_are_rows Q_are_rows (by decide) B D_are_allR D_are_ascending) (Q_are_rows.binds (ps := ["thing", "tests", "size"]) fun _ _ _ _ _ _ us hl => match us, hl with | [_, _, _], _ => rfl)
  have D_bare_sheet : L2.Def l.prog w K mg base 1 "bare_sheet" f_bare_sheet fd_bare_sheet [] (SpF K F_bare_sheet) := def_of I_bare_sheet X G Q_bare_sheet (ok_bare_sheet Q_bare_sheet C_BARE_SHEET Z_BARE_SHEET) (Q_bare_sheet.binds (ps := []) fun _ _ _ _ _ _ us hl => match us, hl with | [], _ => rfl)
  have D_is_sheet : L2.Def l.prog w K mg base 8 "is_sheet" f_is_sheet fd_is_sheet ["thing"] (SpF K (FJ fit isSheet)) := def_of I_is_sheet X G Q_is_sheet (ok_is_sheet Q_is_sheet B C_BOOT C_NUMBER C_PENDING D_is_tuple_of D_is_count D_are_rows D_is_number D_is_name D_is_base D_is_edit tR_is_number tR_is_name tR_is_base tR_is_edit) (Q_is_sheet.binds (ps := ["thing"]) fun _ _ _ _ _ _ us hl => match us, hl with | [_], _ => rfl)
  have D_check_sheet : L2.Def l.prog w K mg base 9 "check_sheet" f_check_sheet fd_check_sheet ["thing"] (SpF K F_check_sheet) := def_of I_check_sheet X G Q_check_sheet (ok_check_sheet Q_check_sheet D_is_sheet) (Q_check_sheet.binds (ps := ["thing"]) fun _ _ _ _ _ _ us hl => match us, hl with | [_], _ => rfl)
  have HSN : ∀ f sp, judgeS K tabN f = some sp → L2.Held l.prog w K mg base 8 f sp := hs_of fun q hq => by
    simp only [List.mem_cons, List.not_mem_nil, or_false] at hq
    rcases hq with rfl | rfl | rfl | rfl | rfl
    · exact held_of D_is_name (by decide) (fun _ h => h)
    · exact held_of D_is_base (by decide) (fun _ h => h)
    · exact held_of D_is_edit (by decide) (fun _ h => h)
    · exact held_of D_is_number (by decide) (fun _ _ => rfl)
    · exact held_of D_is_sheet (by decide) (fun _ h => h)
  have D_are_allN : L2.Def l.prog w K mg base 9 "are_all" f_are_all fd_are_all ["things", "tests"] (SpF K (F_are_all tabN)) := def_of I_are_all X G Q_are_all (ok_are_all Q_are_all HSN B) (Q_are_all.binds (ps := ["things", "tests"]) fun _ _ _ _ _ _ us hl => match us, hl with | [_, _], _ => rfl)
  have D_is_note : L2.Def l.prog w K mg base 10 "is_note" f_is_note fd_is_note ["thing"] (SpF K (FJ fit isNote)) := def_of I_is_note X G Q_is_note (ok_is_note Q_is_note C_NOTES K_NOTES KN D_has_word D_are_allN) (Q_is_note.binds (ps := ["thing"]) fun _ _ _ _ _ _ us hl => match us, hl with | [_], _ => rfl)
  have D_raw_noted : L2.Def l.prog w K mg base 1 "raw_noted" f_raw_noted fd_raw_noted ["sheet", "deed"] (SpF K F_raw_noted) := def_of I_raw_noted X G Q_raw_noted (ok_raw_noted Q_raw_noted B) (Q_raw_noted.binds (ps := ["sheet", "deed"]) fun _ _ _ _ _ _ us hl => match us, hl with | [_, _], _ => rfl)
  have D_noted_behind : L2.Def l.prog w K mg base 11 "noted_behind" f_noted_behind fd_noted_behind ["sheet", "deed"] (SpF K F_noted_behind) := def_of I_noted_behind X G Q_noted_behind (ok_noted_behind Q_noted_behind D_check_sheet D_is_note D_raw_noted) (Q_noted_behind.binds (ps := ["sheet", "deed"]) fun _ _ _ _ _ _ us hl => match us, hl with | [_, _], _ => rfl)
  have D__law_pot : L2.Def l.prog w K mg base 1 "_law_pot" f__law_pot fd__law_pot ["_law_script"] (SpF K F__law_pot) := def_of I__law_pot X G Q__law_pot (ok__law_pot Q__law_pot B) (Q__law_pot.binds (ps := ["_law_script"]) fun _ _ _ _ _ _ us hl => match us, hl with | [_], _ => rfl)
  have D__law_draw : L2.Def l.prog w K mg base 1 "_law_draw" f__law_draw fd__law_draw ["_law_pot_here", "_law_many"] (SpF K F__law_draw) := def_of I__law_draw X G Q__law_draw (ok__law_draw Q__law_draw B) (Q__law_draw.binds (ps := ["_law_pot_here", "_law_many"]) fun _ _ _ _ _ _ us hl => match us, hl with | [_, _], _ => rfl)
  have D__law_any : L2.Def l.prog w K mg base 2 "_law_any" f__law_any fd__law_any ["_law_pot_here", "_law_things"] (SpF K F__law_any) := def_of I__law_any X G Q__law_any (ok__law_any Q__law_any B D__law_draw) (Q__law_any.binds (ps := ["_law_pot_here", "_law_things"]) fun _ _ _ _ _ _ us hl => match us, hl with | [_, _], _ => rfl)
  have D__law_signs : L2.Def l.prog w K mg base 2 "_law_signs" f__law_signs fd__law_signs ["_law_pot_here", "_law_many"] (SpF K F__law_signs) := def_of I__law_signs X G Q__law_signs (ok__law_signs Q__law_signs B D__law_draw) (Q__law_signs.binds (ps := ["_law_pot_here", "_law_many"]) fun _ _ _ _ _ _ us hl => match us, hl with | [_, _], _ => rfl)
  have D__law_text : L2.Def l.prog w K mg base 3 "_law_text" f__law_text fd__law_text ["_law_pot_here"] (SpF K F__law_text) := def_of I__law_text X G Q__law_text (ok__law_text Q__law_text D__law_signs D__law_any) (Q__law_text.binds (ps := ["_law_pot_here"]) fun _ _ _ _ _ _ us hl => match us, hl with | [_], _ => rfl)
  have D__law_name : L2.Def l.prog w K mg base 3 "_law_name" f__law_name fd__law_name ["_law_pot_here"] (SpF K F__law_name) := def_of I__law_name X G Q__law_name (ok__law_name Q__law_name B D__law_any D__law_draw) (Q__law_name.binds (ps := ["_law_pot_here"]) fun _ _ _ _ _ _ us hl => match us, hl with | [_], _ => rfl)
  have D__law_edit : L2.Def l.prog w K mg base 4 "_law_edit" f__law_edit fd__law_edit ["_law_pot_here"] (SpF K F__law_edit) := def_of I__law_edit X G Q__law_edit (ok__law_edit Q__law_edit D__law_name D__law_draw D__law_text D__law_any) (Q__law_edit.binds (ps := ["_law_pot_here"]) fun _ _ _ _ _ _ us hl => match us, hl with | [_], _ => rfl)
  have D__law_account : L2.Def l.prog w K mg base 1 "_law_account" f__law_account fd__law_account ["_law_begin"] (SpF K F__law_account) := def_of I__law_account X G Q__law_account (ok__law_account Q__law_account B) (Q__law_account.binds (ps := ["_law_begin"]) fun _ _ _ _ _ _ us hl => match us, hl with | [_], _ => rfl)
  have D__law_sheet_of : L2.Def l.prog w K mg base 1 "_law_sheet_of" f__law_sheet_of fd__law_sheet_of ["_law_account_here"] (SpF K F__law_sheet_of) := def_of I__law_sheet_of X G Q__law_sheet_of (ok__law_sheet_of Q__law_sheet_of B) (Q__law_sheet_of.binds (ps := ["_law_account_here"]) fun _ _ _ _ _ _ us hl => match us, hl with | [_], _ => rfl)
  have D__law_did : L2.Def l.prog w K mg base 5 "_law_did" f__law_did fd__law_did ["_law_pot_here", "_law_account_here"] (SpF K F__law_did) := def_of I__law_did X G Q__law_did (ok__law_did Q__law_did B D__law_draw D__law_any D__law_name D__law_edit) (Q__law_did.binds (ps := ["_law_pot_here", "_law_account_here"]) fun _ _ _ _ _ _ us hl => match us, hl with | [_, _], _ => rfl)
  have D__law_is0 : L2.Def l.prog w K mg base 1 "_law_is" f__law_is fd__law_is ["_law_told", "_law_due"] (SpF K (F__law_is 0)) := def_of I__law_is X G Q__law_is (ok__law_is0 Q__law_is) (Q__law_is.binds (ps := ["_law_told", "_law_due"]) fun _ _ _ _ _ _ us hl => match us, hl with | [_, _], _ => rfl)
  have D__law_is1 : L2.Def l.prog w K mg base 2 "_law_is" f__law_is fd__law_is ["_law_told", "_law_due"] (SpF K (F__law_is 1)) := def_of I__law_is X G Q__law_is (ok__law_is Q__law_is B D__law_is0) (Q__law_is.binds (ps := ["_law_told", "_law_due"]) fun _ _ _ _ _ _ us hl => match us, hl with | [_, _], _ => rfl)
  have D__law_is2 : L2.Def l.prog w K mg base 3 "_law_is" f__law_is fd__law_is ["_law_told", "_law_due"] (SpF K (F__law_is 2)) := def_of I__law_is X G Q__law_is (ok__law_is Q__law_is B D__law_is1) (Q__law_is.binds (ps := ["_law_told", "_law_due"]) fun _ _ _ _ _ _ us hl => match us, hl with | [_, _], _ => rfl)
  have D__law_is3 : L2.Def l.prog w K mg base 4 "_law_is" f__law_is fd__law_is ["_law_told", "_law_due"] (SpF K (F__law_is 3)) := def_of I__law_is X G Q__law_is (ok__law_is Q__law_is B D__law_is2) (Q__law_is.binds (ps := ["_law_told", "_law_due"]) fun _ _ _ _ _ _ us hl => match us, hl with | [_, _], _ => rfl)
  have D__law_is4 : L2.Def l.prog w K mg base 5 "_law_is" f__law_is fd__law_is ["_law_told", "_law_due"] (SpF K (F__law_is 4)) := def_of I__law_is X G Q__law_is (ok__law_is Q__law_is B D__law_is3) (Q__law_is.binds (ps := ["_law_told", "_law_due"]) fun _ _ _ _ _ _ us hl => match us, hl with | [_, _], _ => rfl)
  have D__law_is5 : L2.Def l.prog w K mg base 6 "_law_is" f__law_is fd__law_is ["_law_told", "_law_due"] (SpF K (F__law_is 5)) := def_of I__law_is X G Q__law_is (ok__law_is Q__law_is B D__law_is4) (Q__law_is.binds (ps := ["_law_told", "_law_due"]) fun _ _ _ _ _ _ us hl => match us, hl with | [_, _], _ => rfl)
  have D__law_is6 : L2.Def l.prog w K mg base 7 "_law_is" f__law_is fd__law_is ["_law_told", "_law_due"] (SpF K (F__law_is 6)) := def_of I__law_is X G Q__law_is (ok__law_is Q__law_is B D__law_is5) (Q__law_is.binds (ps := ["_law_told", "_law_due"]) fun _ _ _ _ _ _ us hl => match us, hl with | [_, _], _ => rfl)
  exact (ok_law Q_law B D__law_pot D_bare_sheet D__law_account D__law_draw D__law_any D_noted_behind D__law_did D__law_is6 D__law_sheet_of D_is_sheet).imp fun vs H Q E h => spLaw_of h
theorem walk {l : PySem.W.OpenLaw} {q : Program} {loose : List Str} {XP : (Str → Option Value) → Heap → Prop} {YP : World → Heap → Prop} {d : DefRec} {K : Params → PySem.W.Frag} (hn : l.most = some 63) (hdf : d.params.defaults = [])
    (hY : ∀ (w : World) (h : Heap), YP w h → (K w.params).In h)
    (F : ∀ (w : World) (mg : Str → Option Value) (fa : Addr) (h : Heap), (K w.params).In h → h.Ns mainGlobals mg → mg d.name = some (.ref fa) →
      ∃ fd : FuncData, (∀ (s : Shared) (u : Value), BindsTo s fd ⟨[u], []⟩ [("_law_script", u)]) ∧ ∀ base : Heap, (K w.params).In base → base.Ns mainGlobals mg → FnOk l.prog w (K w.params) mg base CX0 12 fa fd ["_law_script"] (spLaw (K w.params))) :
    PySem.W.WalkO q loose XP YP l.row.toRowW d [] (fun f vs => PySem.call f vs) :=
  L2.walk_of (n := 63) (k := 12) (x := "_law_script") (CX := fun _ => CX0) (sp := fun w => spLaw (K w.params)) hn (by decide) hdf ⟨rfl, by decide, by decide⟩ hY F (fun _ _ a ns hl _ hS => ⟨a, ns, rfl, hS, hl, fun _ => rfl⟩) fun _ _ _ _ _ z => z
end Pr

open PySem PySem.W PyProof.Rows
set_option Elab.async false
set_option linter.all false
set_option maxRecDepth 100000 in
set_option maxHeartbeats 0 in
theorem PySem.Challenge.cw_leasefiles_k19_whole_sheets_by_their_dee_holds : PySem.Challenge.rw_leasefiles_k19_whole_sheets_by_their_dee.Holds := by
  w_on; o_law; k_head; (case hw => w_witness2)
  k_fill
  refine Pr.walk (l := PySem.Challenge.rw_leasefiles_k19_whole_sheets_by_their_dee) rfl rfl (fun w h Y => PySem.W.kIn_of Y) ?F
  case F =>
    intro w mg fa h KX G hmg
    refine' Pr.all_mk KX G hmg ?I_is_integer ?I_is_between ?I_is_count ?I_is_tuple_of ?I_are_ascending ?I_is_client ?I_is_number ?I_is_name ?I_is_text ?I_is_stamp ?I_is_base ?I_has_word ?I_are_all ?I_is_edit ?I_are_rows ?I_bare_sheet ?I_is_sheet ?I_check_sheet ?I_is_note ?I_raw_noted ?I_noted_behind ?I__law_pot ?I__law_draw ?I__law_any ?I__law_signs ?I__law_text ?I__law_name ?I__law_edit ?I__law_account ?I__law_sheet_of ?I__law_did ?I__law_is ?I_law ?N_MOST_CLIENTS ?N_MOST_IN_NAME ?N_SIGNS ?N_MOST_IN_TEXT ?N_BOOT ?N_NUMBER ?N_PENDING ?N_FIRST_STAMP ?N_BARE_SHEET ?N_EDITS ?N_NOTES ?U1 ?U2 ?U3 ?TE ?VE0 ?WE0 ?VE1 ?WE1 ?VE2 ?WE2 ?VE3 ?WE3 ?VE4 ?WE4 ?VE5 ?WE5 ?TN ?VN0 ?WN0 ?VN1 ?WN1 ?VN2 ?WN2 ?VN3 ?WN3 ?z_isinstance ?z_len ?z_all ?z_range ?z_zip ?z_int ?z_str ?z_bool ?z_tuple ?z_list ?z_abs ?z_max
    (case I_is_integer => (refine' Dl.isDef_mk ?gaa ?gll ?gcc ?gkk); (case gaa => k_is); (case gll => k_is); (case gcc => k_is); (case gkk => k_is))
    (case I_is_between => (refine' Dl.isDef_mk ?gaa ?gll ?gcc ?gkk); (case gaa => k_is); (case gll => k_is); (case gcc => k_is); (case gkk => k_is))
    (case I_is_count => (refine' Dl.isDef_mk ?gaa ?gll ?gcc ?gkk); (case gaa => k_is); (case gll => k_is); (case gcc => k_is); (case gkk => k_is))
    (case I_is_tuple_of => (refine' Dl.isDef_mk ?gaa ?gll ?gcc ?gkk); (case gaa => k_is); (case gll => k_is); (case gcc => k_is); (case gkk => k_is))
    (case I_are_ascending => (refine' Dl.isDef_mk ?gaa ?gll ?gcc ?gkk); (case gaa => k_is); (case gll => k_is); (case gcc => k_is); (case gkk => k_is))
    (case I_is_client => (refine' Dl.isDef_mk ?gaa ?gll ?gcc ?gkk); (case gaa => k_is); (case gll => k_is); (case gcc => k_is); (case gkk => k_is))
    (case I_is_number => (refine' Dl.isDef_mk ?gaa ?gll ?gcc ?gkk); (case gaa => k_is); (case gll => k_is); (case gcc => k_is); (case gkk => k_is))
    (case I_is_name => (refine' Dl.isDef_mk ?gaa ?gll ?gcc ?gkk); (case gaa => k_is); (case gll => k_is); (case gcc => k_is); (case gkk => k_is))
    (case I_is_text => (refine' Dl.isDef_mk ?gaa ?gll ?gcc ?gkk); (case gaa => k_is); (case gll => k_is); (case gcc => k_is); (case gkk => k_is))
    (case I_is_stamp => (refine' Dl.isDef_mk ?gaa ?gll ?gcc ?gkk); (case gaa => k_is); (case gll => k_is); (case gcc => k_is); (case gkk => k_is))
    (case I_is_base => (refine' Dl.isDef_mk ?gaa ?gll ?gcc ?gkk); (case gaa => k_is); (case gll => k_is); (case gcc => k_is); (case gkk => k_is))
    (case I_has_word => (refine' Dl.isDef_mk ?gaa ?gll ?gcc ?gkk); (case gaa => k_is); (case gll => k_is); (case gcc => k_is); (case gkk => k_is))
    (case I_are_all => (refine' Dl.isDef_mk ?gaa ?gll ?gcc ?gkk); (case gaa => k_is); (case gll => k_is); (case gcc => k_is); (case gkk => k_is))
    (case I_is_edit => (refine' Dl.isDef_mk ?gaa ?gll ?gcc ?gkk); (case gaa => k_is); (case gll => k_is); (case gcc => k_is); (case gkk => k_is))
    (case I_are_rows => (refine' Dl.isDef_mk ?gaa ?gll ?gcc ?gkk); (case gaa => k_is); (case gll => k_is); (case gcc => k_is); (case gkk => k_is))
    (case I_bare_sheet => (refine' Dl.isDef_mk ?gaa ?gll ?gcc ?gkk); (case gaa => k_is); (case gll => k_is); (case gcc => k_is); (case gkk => k_is))
    (case I_is_sheet => (refine' Dl.isDef_mk ?gaa ?gll ?gcc ?gkk); (case gaa => k_is); (case gll => k_is); (case gcc => k_is); (case gkk => k_is))
    (case I_check_sheet => (refine' Dl.isDef_mk ?gaa ?gll ?gcc ?gkk); (case gaa => k_is); (case gll => k_is); (case gcc => k_is); (case gkk => k_is))
    (case I_is_note => (refine' Dl.isDef_mk ?gaa ?gll ?gcc ?gkk); (case gaa => k_is); (case gll => k_is); (case gcc => k_is); (case gkk => k_is))
    (case I_raw_noted => (refine' Dl.isDef_mk ?gaa ?gll ?gcc ?gkk); (case gaa => k_is); (case gll => k_is); (case gcc => k_is); (case gkk => k_is))
    (case I_noted_behind => (refine' Dl.isDef_mk ?gaa ?gll ?gcc ?gkk); (case gaa => k_is); (case gll => k_is); (case gcc => k_is); (case gkk => k_is))
    (case I__law_pot => (refine' Dl.isDef_mk ?gaa ?gll ?gcc ?gkk); (case gaa => k_is); (case gll => k_is); (case gcc => k_is); (case gkk => k_is))
    (case I__law_draw => (refine' Dl.isDef_mk ?gaa ?gll ?gcc ?gkk); (case gaa => k_is); (case gll => k_is); (case gcc => k_is); (case gkk => k_is))
    (case I__law_any => (refine' Dl.isDef_mk ?gaa ?gll ?gcc ?gkk); (case gaa => k_is); (case gll => k_is); (case gcc => k_is); (case gkk => k_is))
    (case I__law_signs => (refine' Dl.isDef_mk ?gaa ?gll ?gcc ?gkk); (case gaa => k_is); (case gll => k_is); (case gcc => k_is); (case gkk => k_is))
    (case I__law_text => (refine' Dl.isDef_mk ?gaa ?gll ?gcc ?gkk); (case gaa => k_is); (case gll => k_is); (case gcc => k_is); (case gkk => k_is))
    (case I__law_name => (refine' Dl.isDef_mk ?gaa ?gll ?gcc ?gkk); (case gaa => k_is); (case gll => k_is); (case gcc => k_is); (case gkk => k_is))
    (case I__law_edit => (refine' Dl.isDef_mk ?gaa ?gll ?gcc ?gkk); (case gaa => k_is); (case gll => k_is); (case gcc => k_is); (case gkk => k_is))
    (case I__law_account => (refine' Dl.isDef_mk ?gaa ?gll ?gcc ?gkk); (case gaa => k_is); (case gll => k_is); (case gcc => k_is); (case gkk => k_is))
    (case I__law_sheet_of => (refine' Dl.isDef_mk ?gaa ?gll ?gcc ?gkk); (case gaa => k_is); (case gll => k_is); (case gcc => k_is); (case gkk => k_is))
    (case I__law_did => (refine' Dl.isDef_mk ?gaa ?gll ?gcc ?gkk); (case gaa => k_is); (case gll => k_is); (case gcc => k_is); (case gkk => k_is))
    (case I__law_is => (refine' Dl.isDef_mk ?gaa ?gll ?gcc ?gkk); (case gaa => k_is); (case gll => k_is); (case gcc => k_is); (case gkk => k_is))
    (case I_law => (refine' Dl.isDef_mk ?gaa ?gll ?gcc ?gkk); (case gaa => k_is); (case gll => k_is); (case gcc => k_is); (case gkk => k_is))
    (case N_MOST_CLIENTS => k_is)
    (case N_MOST_IN_NAME => k_is)
    (case N_SIGNS => k_is)
    (case N_MOST_IN_TEXT => k_is)
    (case N_BOOT => k_is)
    (case N_NUMBER => k_is)
    (case N_PENDING => k_is)
    (case N_FIRST_STAMP => k_is)
    (case N_BARE_SHEET => k_is)
    (case N_EDITS => k_is)
    (case N_NOTES => k_is)
    (case U1 => (refine' Dl.isTup_mk ?gqq); (case gqq => k_is))
    (case U2 => (refine' Dl.isTup_mk ?gqq); (case gqq => k_is))
    (case U3 => (refine' Dl.isTup_mk ?gqq); (case gqq => k_is))
    (case TE => (refine' ⟨⟨?gqq, ?grr, ?gss⟩, ?gtt⟩); (case gqq => k_is); (case grr => exact ⟨⟨_, _, rfl, rfl⟩, ⟨_, _, rfl, rfl⟩, ⟨_, _, rfl, rfl⟩, ⟨_, _, rfl, rfl⟩, ⟨_, _, rfl, rfl⟩, ⟨_, _, rfl, rfl⟩, trivial⟩); (case gss => rfl); (case gtt => exact ⟨⟨_, rfl⟩, ⟨_, rfl⟩, ⟨_, rfl⟩, ⟨_, rfl⟩, ⟨_, rfl⟩, ⟨_, rfl⟩, trivial⟩))
    (case VE0 => k_is)
    (case WE0 => (refine' Dl.isTup_mk ?gqq); (case gqq => k_is))
    (case VE1 => k_is)
    (case WE1 => (refine' Dl.isTup_mk ?gqq); (case gqq => k_is))
    (case VE2 => k_is)
    (case WE2 => (refine' Dl.isTup_mk ?gqq); (case gqq => k_is))
    (case VE3 => k_is)
    (case WE3 => (refine' Dl.isTup_mk ?gqq); (case gqq => k_is))
    (case VE4 => k_is)
    (case WE4 => (refine' Dl.isTup_mk ?gqq); (case gqq => k_is))
    (case VE5 => k_is)
    (case WE5 => (refine' Dl.isTup_mk ?gqq); (case gqq => k_is))
    (case TN => (refine' ⟨⟨?gqq, ?grr, ?gss⟩, ?gtt⟩); (case gqq => k_is); (case grr => exact ⟨⟨_, _, rfl, rfl⟩, ⟨_, _, rfl, rfl⟩, ⟨_, _, rfl, rfl⟩, ⟨_, _, rfl, rfl⟩, trivial⟩); (case gss => rfl); (case gtt => exact ⟨⟨_, rfl⟩, ⟨_, rfl⟩, ⟨_, rfl⟩, ⟨_, rfl⟩, trivial⟩))
    (case VN0 => k_is)
    (case WN0 => (refine' Dl.isTup_mk ?gqq); (case gqq => k_is))
    (case VN1 => k_is)
    (case WN1 => (refine' Dl.isTup_mk ?gqq); (case gqq => k_is))
    (case VN2 => k_is)
    (case WN2 => (refine' Dl.isTup_mk ?gqq); (case gqq => k_is))
    (case VN3 => k_is)
    (case WN3 => (refine' Dl.isTup_mk ?gqq); (case gqq => k_is))
    (case z_isinstance => k_is)
    (case z_len => k_is)
    (case z_all => k_is)
    (case z_range => k_is)
    (case z_zip => k_is)
    (case z_int => k_is)
    (case z_str => k_is)
    (case z_bool => k_is)
    (case z_tuple => k_is)
    (case z_list => k_is)
    (case z_abs => k_is)
    (case z_max => k_is)
#print axioms PySem.Challenge.cw_leasefiles_k19_whole_sheets_by_their_dee_holds
